import PyProof.Rows.All
import Wide.All
import OpenK.AllK
import Wide.FinOn
import HandS.ForMost
import HandS.TupAny
import HandS.TupMul
import HandS.Gcd
import HandS.IsInst
import HandS.TupLe
import KE.KMathG
import HandS.Zip
import HandS.Wide
import KE.KTupSum
import HandS.WordsExc
import HandS.Defaults
import HandS.HeadEnd
import HandS.HeadHook1
import HandS.HeadHook2
import HandS.HeadHook3
import HandS.HeadHook4
import PySem.Challenge.RW_planyard_k34_shares_by_orders
import HandS.Dict
import KE.KStateDown
import HandS.Ends
import HandS.Head0
import HandS.Head1
import HandS.Head2
import HandS.Head3

set_option Elab.async false
set_option linter.all false
set_option maxRecDepth 100000
set_option maxHeartbeats 0

/-! The layer of typed slots: data that never change are told by a kept heap g, objects that still change are owned. -/
namespace Lw
open PySem PySem.Spec PyProof.Rows L2

/-- values of a Lean type, as the kept heap bears them -/
class Py (K : PySem.W.Frag) (α : Type) where
  R : Hp → V → α → Prop
  mono : ∀ {g g' : Hp} {v : V} {x : α}, Same g g' → R g v x → R g' v x
/-- a tuple whose items are alike -/
structure Tup (α : Type) where
  l : List α

theorem paired_mono {α β : Type} {F G : α → β → Prop} : ∀ {xs : List α} {ys : List β}, (∀ a b, F a b → G a b) → Paired F xs ys → Paired G xs ys
  | _, _, _, .nil => .nil
  | _, _, h, .cons r t => .cons (h _ _ r) (paired_mono h t)
theorem paired_get {α β : Type} {F : α → β → Prop} : ∀ {xs : List α} {ys : List β} {i : Nat} {y : β}, Paired F xs ys → ys[i]? = some y → ∃ x, xs[i]? = some x ∧ F x y
  | _, _, _, _, .nil, e => by simp at e
  | _, _, 0, y, .cons r _, e => by simp at e; subst e; exact ⟨_, rfl, r⟩
  | _, _, i + 1, y, .cons _ t, e => by
    obtain ⟨x, h1, h2⟩ := paired_get (i := i) (y := y) t (by simpa using e)
    exact ⟨x, by simpa using h1, h2⟩
theorem paired_getL {α β : Type} {F : α → β → Prop} : ∀ {xs : List α} {ys : List β} {i : Nat} {x : α}, Paired F xs ys → xs[i]? = some x → ∃ y, ys[i]? = some y ∧ F x y
  | _, _, _, _, .nil, e => by simp at e
  | _, _, 0, y, .cons r _, e => by simp at e; subst e; exact ⟨_, rfl, r⟩
  | _, _, i + 1, y, .cons _ t, e => by
    obtain ⟨x, h1, h2⟩ := paired_getL (i := i) (x := y) t (by simpa using e)
    exact ⟨x, by simpa using h1, h2⟩
theorem paired_append {α β : Type} {F : α → β → Prop} : ∀ {xs : List α} {ys : List β} {xs' : List α} {ys' : List β}, Paired F xs ys → Paired F xs' ys' → Paired F (xs ++ xs') (ys ++ ys')
  | _, _, _, _, .nil, s => s
  | _, _, _, _, .cons r t, s => .cons r (paired_append t s)
theorem paired_take {α β : Type} {F : α → β → Prop} : ∀ {xs : List α} {ys : List β} (n : Nat), Paired F xs ys → Paired F (xs.take n) (ys.take n)
  | _, _, 0, _ => .nil
  | _, _, _ + 1, .nil => .nil
  | _, _, n + 1, .cons r t => .cons r (paired_take n t)
theorem paired_drop {α β : Type} {F : α → β → Prop} : ∀ {xs : List α} {ys : List β} (n : Nat), Paired F xs ys → Paired F (xs.drop n) (ys.drop n)
  | _, _, 0, r => r
  | _, _, _ + 1, .nil => .nil
  | _, _, n + 1, .cons _ t => paired_drop n t
theorem paired_set {α β : Type} {F : α → β → Prop} {x : α} {y : β} (r : F x y) : ∀ {xs : List α} {ys : List β} (n : Nat), Paired F xs ys → Paired F (xs.set n x) (ys.set n y)
  | _, _, _, .nil => .nil
  | _, _, 0, .cons _ t => .cons r t
  | _, _, n + 1, .cons q t => .cons q (paired_set r n t)
theorem paired_rev {α β : Type} {F : α → β → Prop} {xs : List α} {ys : List β} (h : Paired F xs ys) : Paired F xs.reverse ys.reverse := by
  induction h with
  | nil => exact .nil
  | cons r _ ih => rw [List.reverse_cons, List.reverse_cons]; exact paired_append ih (.cons r .nil)
theorem paired_map {α β γ : Type} {F : α → β → Prop} {f : γ → α} : ∀ {ys : List γ} {zs : List β}, Paired (fun c b => F (f c) b) ys zs → Paired F (ys.map f) zs
  | _, _, .nil => .nil
  | _, _, .cons r t => .cons r (paired_map t)
theorem paired_eq {α β : Type} {f : β → α} : ∀ {xs : List α} {ys : List β}, Paired (fun a b => a = f b) xs ys → xs = ys.map f
  | _, _, .nil => rfl
  | _, _, .cons r t => by rw [r, paired_eq t]; rfl
theorem paired_of_eq {α β : Type} {f : β → α} : ∀ {ys : List β}, Paired (fun a b => a = f b) (ys.map f) ys
  | [] => .nil
  | _ :: _ => .cons rfl paired_of_eq

theorem same_seqT {K : PySem.W.Frag} {H H' : Hp} {a : Addr} {xs : List V} (e : Same H H') (h : SqT K H a xs) : SqT K H' a xs := by
  rcases h with (h | ⟨o, h⟩) | h
  · exact .inl (.inl (e _ _ h))
  · exact .inl (.inr ⟨o, e _ _ h⟩)
  · exact .inr h

section
variable {K : PySem.W.Frag}
instance : Py K Int := ⟨fun _ v x => v = .int x, fun _ h => h⟩
instance : Py K Bool := ⟨fun _ v x => v = .bl x, fun _ h => h⟩
instance : Py K Str := ⟨fun _ v x => v = .str x, fun _ h => h⟩
instance : Py K Unit := ⟨fun _ v _ => v = .non, fun _ h => h⟩
instance : Py K V := ⟨fun _ v x => v = x, fun _ h => h⟩
instance instOpt {α : Type} [i : Py K α] : Py K (Option α) := ⟨fun g v x => match x with
  | none => v = .non
  | some y => v ≠ .non ∧ i.R g v y, fun {g g' v x} e h => by
    cases x with
    | none => exact h
    | some y => exact ⟨h.1, i.mono e h.2⟩⟩
instance instList {α : Type} [i : Py K α] : Py K (List α) := ⟨fun g v xs => ∃ a vs, v = .ref a ∧ SqL K g a vs ∧ Paired (i.R g) vs xs, fun {g g' v x} e h => by
  obtain ⟨a, vs, h1, h2, h3⟩ := h
  exact ⟨a, vs, h1, e.seq h2, paired_mono (fun _ _ q => i.mono e q) h3⟩⟩
instance instTup {α : Type} [i : Py K α] : Py K (Tup α) := ⟨fun g v xs => ∃ a vs, v = .ref a ∧ SqT K g a vs ∧ Paired (i.R g) vs xs.l, fun {g g' v x} e h => by
  obtain ⟨a, vs, h1, h2, h3⟩ := h
  exact ⟨a, vs, h1, same_seqT e h2, paired_mono (fun _ _ q => i.mono e q) h3⟩⟩
instance instPair {α β : Type} [i : Py K α] [j : Py K β] : Py K (α × β) := ⟨fun g v x => ∃ a u w, v = .ref a ∧ SqT K g a [u, w] ∧ i.R g u x.1 ∧ j.R g w x.2, fun {g g' v x} e h => by
  obtain ⟨a, u, w, h1, h2, h3, h4⟩ := h
  exact ⟨a, u, w, h1, same_seqT e h2, i.mono e h3, j.mono e h4⟩⟩

/-- a slot: nothing is known, or a value of a type -/
inductive Slot (K : PySem.W.Frag) : Type 1 where
  | unk
  | val (α : Type) (i : Py K α) (x : α)
def Slot.ok (g : Hp) : Slot K → Option V → Prop
  | .unk, _ => True
  | .val _ i x, o => ∃ v, o = some v ∧ i.R g v x
theorem Slot.ok_mono {g g' : Hp} {s : Slot K} {o : Option V} (e : Same g g') (h : s.ok g o) : s.ok g' o := by
  cases s with
  | unk => trivial
  | val α i x => obtain ⟨v, h1, h2⟩ := h; exact ⟨v, h1, i.mono e h2⟩
abbrev sv {α : Type} [i : Py K α] (x : α) : Slot K := .val α i x

/-- an owned object: what is known of it, by the kept heap -/
structure Own where
  P : Hp → HO → Prop
  mono : ∀ {g g' : Hp} {o : HO}, Same g g' → P g o → P g' o
/-- the caller's view at the entry: what may be changed, the kept heap, the heap -/
structure Bs where
  ls : List Addr
  g : Hp
  h : Hp
abbrev Env (K : PySem.W.Frag) := List (Slot K)
abbrev Os := List (Addr × Own)

structure S0 (b : Bs) (g h : Hp) (σ : L2.St) (env : Env K) (os : Os) : Prop where
  gh : Same g h
  len : σ.length = env.length
  sl : ∀ (i : Nat) (s : Slot K), env[i]? = some s → s.ok g (σ[i]?.join)
  own : ∀ p ∈ os, g p.1 = none ∧ ∃ o : HO, h p.1 = some o ∧ p.2.P g o
  nd : (os.map (·.1)).Nodup
  gg : Same b.g g
  fr : ∀ a o, a ∉ b.ls → b.h a = some o → h a = some o
  th : ∀ a, b.h a ≠ none → h a ≠ none
  new : ∀ a, b.g a = none → b.h a ≠ none → g a = none
  ol : ∀ p ∈ os, b.h p.1 = none ∨ p.1 ∈ b.ls

/-- a step that changes nothing that was there -/
structure Le (g h g' h' : Hp) : Prop where
  gg : Same g g'
  hh : Same h h'
  gh : Same g' h'
  new : ∀ a, g a = none → h a ≠ none → g' a = none

theorem some_ne_none {α : Type} {o : Option α} {x : α} (h : o = some x) : o ≠ none := by rw [h]; exact fun z => by cases z
theorem sameNe {H H' : Hp} (e : Same H H') {a : Addr} (h : H a ≠ none) : H' a ≠ none := by
  cases q : H a with
  | none => exact absurd q h
  | some o => rw [e a o q]; exact fun z => by cases z

variable {b : Bs} {g h g' h' : Hp} {σ : L2.St} {env : Env K} {os : Os}
theorem Le.refl (e : Same g h) : Le g h g h := ⟨Same.refl _, Same.refl _, e, fun _ n _ => n⟩
theorem Le.trans {g2 h2 : Hp} (a : Le g h g' h') (c : Le g' h' g2 h2) : Le g h g2 h2 :=
  ⟨a.gg.trans c.gg, a.hh.trans c.hh, c.gh, fun x n m => c.new x (a.new x n m) (sameNe a.hh m)⟩
/-- a new kept object -/
theorem Le.laid {p : Addr} {o : HO} (e : Same g h) (n : h p = none) : Le g h (upd g p o) (upd h p o) := by
  refine ⟨fun b u q => ?_, fun b u q => ?_, fun b u q => ?_, fun a q m => ?_⟩
  · rw [upd_ne (ne_of_none (e _ _ q) n)]; exact q
  · rw [upd_ne (ne_of_none q n)]; exact q
  · by_cases hb : b = p
    · subst hb; rw [upd_same] at q ⊢; exact q
    · rw [upd_ne hb] at q ⊢; exact e _ _ q
  · rw [upd_ne (fun z => m (by rw [z]; exact n))]; exact q

theorem S0.le (s : S0 b g h σ env os) (l : Le g h g' h') : S0 b g' h' σ env os where
  gh := l.gh
  len := s.len
  sl := fun i t e => Slot.ok_mono l.gg (s.sl i t e)
  own := fun p hp => by
    obtain ⟨n, o, e, q⟩ := s.own p hp
    exact ⟨l.new _ n (some_ne_none e), o, l.hh _ _ e, p.2.mono l.gg q⟩
  nd := s.nd
  gg := s.gg.trans l.gg
  fr := fun a o n e => l.hh _ _ (s.fr a o n e)
  th := fun a n => sameNe l.hh (s.th a n)
  new := fun a n m => l.new a (s.new a n m) (s.th a m)
  ol := s.ol
/-- at the end of a def that changes nothing -/
theorem S0.fin (s : S0 b g h σ env os) (e : b.ls = []) : Le b.g b.h g h :=
  ⟨s.gg, fun a o q => s.fr a o (by rw [e]; exact fun z => by cases z) q, s.gh, s.new⟩
/-- a name is stored -/
theorem S0.set {i : Nat} {v : V} {t : Slot K} (s : S0 b g h σ env os) (r : t.ok g (some v)) : S0 b g h (σ.set i (some v)) (env.set i t) os where
  gh := s.gh
  len := by rw [List.length_set, List.length_set]; exact s.len
  sl := fun j u e => by
    by_cases hj : i = j
    · subst hj
      have hl : i < env.length := by
        have := (List.getElem?_eq_some_iff.mp e).1
        rwa [List.length_set] at this
      rw [List.getElem?_set_self hl] at e
      cases e
      rw [List.getElem?_set_self (by rw [s.len]; exact hl)]
      exact r
    · rw [List.getElem?_set_ne hj] at e ⊢
      exact s.sl j u e
  own := s.own
  nd := s.nd
  gg := s.gg
  fr := s.fr
  th := s.th
  new := s.new
  ol := s.ol
/-- less is known of the slots -/
theorem S0.weak {env' : Env K} (s : S0 b g h σ env os) (l : env'.length = env.length) (w : ∀ (i : Nat) (t : Slot K), env'[i]? = some t → t = Slot.unk ∨ env[i]? = some t) : S0 b g h σ env' os :=
  { s with
    len := by rw [l]; exact s.len
    sl := fun i t e => by
      rcases w i t e with rfl | z
      · trivial
      · exact s.sl i t z }
/-- an owned object is changed -/
theorem S0.put {k : Nat} {l : Addr} {w w' : Own} {o : HO} (s : S0 b g h σ env os) (e : os[k]? = some (l, w)) (q : w'.P g o) : S0 b g (upd h l o) σ env (os.set k (l, w')) := by
  have hm : (l, w) ∈ os := List.mem_of_getElem? e
  obtain ⟨n, o1, e1, _⟩ := s.own _ hm
  have hk : k < os.length := (List.getElem?_eq_some_iff.mp e).1
  have keys : (os.set k (l, w')).map (·.1) = os.map (·.1) := by
    rw [List.map_set]
    apply List.ext_getElem?
    intro j
    by_cases hj : k = j
    · subst hj
      rw [List.getElem?_set_self (by rw [List.length_map]; exact hk), List.getElem?_map, e]
      rfl
    · rw [List.getElem?_set_ne hj]
  have other : ∀ j p, os[j]? = some p → j ≠ k → p.1 ≠ l := fun j p hj hne z => by
    have n1 := s.nd
    have a1 : (os.map (·.1))[j]? = some l := by rw [List.getElem?_map, hj]; exact congrArg some z
    have a2 : (os.map (·.1))[k]? = some l := by rw [List.getElem?_map, e]; rfl
    exact hne ((List.getElem?_inj (by rw [List.length_map]; exact (List.getElem?_eq_some_iff.mp hj).1) n1).mp (a1.trans a2.symm))
  have mem : ∀ p, p ∈ os.set k (l, w') → p = (l, w') ∨ ∃ j, os[j]? = some p ∧ j ≠ k := fun p hp => by
    obtain ⟨j, hj⟩ := List.mem_iff_getElem?.mp hp
    by_cases hjk : k = j
    · subst hjk
      rw [List.getElem?_set_self hk] at hj
      cases hj
      exact .inl rfl
    · rw [List.getElem?_set_ne hjk] at hj
      exact .inr ⟨j, hj, fun z => hjk z.symm⟩
  refine ⟨fun c u q1 => ?_, s.len, s.sl, fun p hp => ?_, by rw [keys]; exact s.nd, s.gg, fun a u na q1 => ?_, fun a na => ?_, s.new, fun p hp => ?_⟩
  · rw [upd_ne (ne_of_none q1 n)]; exact s.gh _ _ q1
  · rcases mem p hp with rfl | ⟨j, hj, hne⟩
    · exact ⟨n, o, upd_same, q⟩
    · obtain ⟨n2, o2, e2, q2⟩ := s.own p (List.mem_of_getElem? hj)
      exact ⟨n2, o2, by rw [upd_ne (other j p hj hne)]; exact e2, q2⟩
  · have : a ≠ l := fun z => by
      subst z
      rcases s.ol _ hm with z | z
      · rw [show b.h a = none from z] at q1; cases q1
      · exact na z
    rw [upd_ne this]; exact s.fr a u na q1
  · by_cases hb : a = l
    · subst hb; rw [upd_same]; exact fun z => by cases z
    · rw [upd_ne hb]; exact s.th a na
  · rcases mem p hp with rfl | ⟨j, hj, _⟩
    · exact s.ol (l, w) hm
    · exact s.ol p (List.mem_of_getElem? hj)
/-- a new owned object -/
theorem S0.add {l : Addr} {w : Own} {o : HO} (s : S0 b g h σ env os) (n : h l = none) (q : w.P g o) : S0 b g (upd h l o) σ env (os ++ [(l, w)]) := by
  have nb : b.h l = none := by
    cases q : b.h l with
    | none => rfl
    | some u => exact absurd n (s.th l (some_ne_none q))
  have ng : g l = none := s.gh.free n
  refine ⟨fun c u q1 => ?_, s.len, s.sl, fun p hp => ?_, ?_, s.gg, fun a u na q1 => ?_, fun a na => ?_, s.new, fun p hp => ?_⟩
  · show L2.upd h l o c = _
    rw [upd_ne (ne_of_none (s.gh _ _ q1) n)]; exact s.gh _ _ q1
  · show _ ∧ ∃ o', L2.upd h l o p.1 = _ ∧ _
    rcases List.mem_append.mp hp with hp | hp
    · obtain ⟨n2, o2, e2, q2⟩ := s.own p hp
      exact ⟨n2, o2, by rw [upd_ne (ne_of_none e2 n)]; exact e2, q2⟩
    · rw [List.mem_singleton] at hp
      subst hp
      exact ⟨ng, o, upd_same, q⟩
  · rw [List.map_append, List.map_singleton]
    refine List.nodup_append.mpr ⟨s.nd, by simp, fun x hx y hy => ?_⟩
    rw [List.mem_singleton] at hy
    subst hy
    obtain ⟨p, hp, rfl⟩ := List.mem_map.mp hx
    obtain ⟨_, o2, e2, _⟩ := s.own p hp
    exact ne_of_none e2 n
  · show L2.upd h l o a = _
    have : a ≠ l := fun z => by rw [z, nb] at q1; cases q1
    rw [upd_ne this]; exact s.fr a u na q1
  · show L2.upd h l o a ≠ _
    by_cases hb : a = l
    · subst hb; rw [upd_same]; exact fun z => by cases z
    · rw [upd_ne hb]; exact s.th a na
  · rcases List.mem_append.mp hp with hp | hp
    · exact s.ol p hp
    · rw [List.mem_singleton] at hp
      subst hp
      exact .inl nb
end
end Lw
/-! What an expression evaluates to in a told state. -/
namespace Lw
open PySem PySem.Spec PyProof.Rows L2
section
variable {K : PySem.W.Frag}
/-- from each state that is as told, te gives a value of x, and nothing that was there is changed -/
def Ev (te : TE) (env : Env K) (os : Os) {α : Type} [i : Py K α] (x : α) : Prop :=
  ∀ {b : Bs} {g h : Hp} {σ : L2.St} {Q : VK}, S0 b g h σ env os → (∀ v g' h', Le g h g' h' → i.R g' v x → Q v h') → te σ h Q
def EvT (tt : TT) (env : Env K) (os : Os) (c : Bool) : Prop :=
  ∀ {b : Bs} {g h : Hp} {σ : L2.St} {Q : Bool → Hp → Prop}, S0 b g h σ env os → (∀ g' h', Le g h g' h' → Q c h') → tt σ h Q
inductive Args (g : Hp) : List V → List (Slot K) → Prop where
  | nil : Args g [] []
  | cons {v : V} {vs : List V} {s : Slot K} {ss : List (Slot K)} : s.ok g (some v) → Args g vs ss → Args g (v :: vs) (s :: ss)
def EvA (ta : TA) (env : Env K) (os : Os) (xs : List (Slot K)) : Prop :=
  ∀ {b : Bs} {g h : Hp} {σ : L2.St} {Q : List V → Hp → Prop}, S0 b g h σ env os → (∀ vs g' h', Le g h g' h' → Args g' vs xs → Q vs h') → ta σ h Q
/-- arguments of one type -/
def EvL (ta : TA) (env : Env K) (os : Os) {α : Type} [i : Py K α] (xs : List α) : Prop :=
  ∀ {b : Bs} {g h : Hp} {σ : L2.St} {Q : List V → Hp → Prop}, S0 b g h σ env os → (∀ vs g' h', Le g h g' h' → Paired (i.R g') vs xs → Q vs h') → ta σ h Q
def EvO (to : TO) (env : Env K) (os : Os) (o : Option Int) : Prop :=
  ∀ {b : Bs} {g h : Hp} {σ : L2.St} {Q : Option Int → Hp → Prop}, S0 b g h σ env os → (∀ g' h', Le g h g' h' → Q o h') → to σ h Q

theorem args_mono {g g' : Hp} {vs : List V} {xs : List (Slot K)} (e : Same g g') (h : Args g vs xs) : Args g' vs xs := by
  induction h with
  | nil => exact .nil
  | cons r _ ih => exact .cons (Slot.ok_mono e r) ih
theorem pr_mono {α : Type} [i : Py K α] {g g' : Hp} {vs : List V} {xs : List α} (e : Same g g') (h : Paired (i.R g) vs xs) : Paired (i.R g') vs xs := paired_mono (fun _ _ q => i.mono e q) h

variable {env : Env K} {os : Os} {ta tb te tx : TE} {t u : TT} {α β γ : Type} [iα : Py K α] [iβ : Py K β] [iγ : Py K γ]
/-! ### names, constants -/
theorem ev_var {i : Nat} {x : α} (e : env[i]? = some (.val α iα x)) : Ev (tVar i) env os x := fun {b g h σ Q} s q => by
  obtain ⟨v, h1, h2⟩ := s.sl i _ e
  refine ⟨v, ?_, q v g h (Le.refl s.gh) h2⟩
  cases hs : σ[i]? with
  | none => rw [hs] at h1; cases h1
  | some o => rw [hs] at h1; rw [show o = some v from h1]
/-- a name whose value is known not to be None -/
theorem ev_varS {i : Nat} {x : α} (e : env[i]? = some (.val (Option α) instOpt (some x))) : Ev (tVar i) env os x := fun {b g h σ Q} s q =>
  ev_var (x := some x) e s fun v g1 h1 l1 r1 => q v g1 h1 l1 r1.2
theorem ev_int {n : Int} : Ev (tC (.int n)) env os n := fun {b g h σ Q} s q => q _ g h (Le.refl s.gh) rfl
theorem ev_bl {c : Bool} : Ev (tC (.bl c)) env os c := fun {b g h σ Q} s q => q _ g h (Le.refl s.gh) rfl
theorem ev_str {x : Str} : Ev (tC (.str x)) env os x := fun {b g h σ Q} s q => q _ g h (Le.refl s.gh) rfl
theorem ev_non : Ev (tC .non) env os () := fun {b g h σ Q} s q => q _ g h (Le.refl s.gh) rfl
theorem ev_noneO : Ev (tC .non) env os (none : Option α) := fun {b g h σ Q} s q => q _ g h (Le.refl s.gh) rfl
theorem ev_v {v : V} : Ev (tC v) env os v := fun {b g h σ Q} s q => q _ g h (Le.refl s.gh) rfl
theorem Ev.to {x y : α} (h : Ev te env os x) (e : x = y) : Ev te env os y := e ▸ h
theorem EvT.to {c d : Bool} (h : EvT t env os c) (e : c = d) : EvT t env os d := e ▸ h

/-! ### arithmetic, comparisons -/
theorem ev_i2 {f : Int → Int → Int} {x y : Int} (ha : Ev ta env os x) (hb : Ev tb env os y) : Ev (tOp (rI0 fun i j => .int (f i j)) ta tb) env os (f x y) := fun {b g h σ Q} s q =>
  ha s fun v g1 h1 l1 r1 => hb (s.le l1) fun w g2 h2 l2 r2 => ⟨x, y, r1, r2, q _ _ _ (l1.trans l2) rfl⟩
theorem ev_iC {C : Int → Int → Prop} {f : Int → Int → Int} {x y : Int} (ha : Ev ta env os x) (hb : Ev tb env os y) (hc : C x y) : Ev (tOp (rI C fun i j => .int (f i j)) ta tb) env os (f x y) := fun {b g h σ Q} s q =>
  ha s fun v g1 h1 l1 r1 => hb (s.le l1) fun w g2 h2 l2 r2 => ⟨x, y, r1, r2, hc, q _ _ _ (l1.trans l2) rfl⟩
theorem ev_ib {f : Int → Int → Bool} {x y : Int} (ha : Ev ta env os x) (hb : Ev tb env os y) : Ev (tOp (rI0 fun i j => .bl (f i j)) ta tb) env os (f x y) := fun {b g h σ Q} s q =>
  ha s fun v g1 h1 l1 r1 => hb (s.le l1) fun w g2 h2 l2 r2 => ⟨x, y, r1, r2, q _ _ _ (l1.trans l2) rfl⟩
theorem ev_iu {f : Int → Int} {x : Int} (ha : Ev ta env os x) : Ev (tUn (rU fun i => .int (f i)) ta) env os (f x) := fun {b g h σ Q} s q =>
  ha s fun v g1 h1 l1 r1 => ⟨x, r1, q _ _ _ l1 rfl⟩
theorem dec_I {x y : Int} : decide (V.int x = V.int y) = decide (x = y) := by by_cases e : x = y <;> simp [e]
theorem dec_B {x y : Bool} : decide (V.bl x = V.bl y) = decide (x = y) := by by_cases e : x = y <;> simp [e]
theorem dec_S {x y : Str} : decide (V.str x = V.str y) = decide (x = y) := by by_cases e : x = y <;> simp [e]
theorem ev_eqI {x y : Int} (ha : Ev ta env os x) (hb : Ev tb env os y) : Ev (tOp rEq ta tb) env os (decide (x = y)) := fun {b g h σ Q} s q =>
  ha s fun v g1 h1 l1 r1 => hb (s.le l1) fun w g2 h2 l2 r2 => by
    cases r1; cases r2
    exact ⟨rfl, by rw [dec_I]; exact q _ _ _ (l1.trans l2) rfl⟩
theorem ev_neI {x y : Int} (ha : Ev ta env os x) (hb : Ev tb env os y) : Ev (tOp rNe ta tb) env os (!decide (x = y)) := fun {b g h σ Q} s q =>
  ha s fun v g1 h1 l1 r1 => hb (s.le l1) fun w g2 h2 l2 r2 => by
    cases r1; cases r2
    exact ⟨rfl, by rw [dec_I]; exact q _ _ _ (l1.trans l2) rfl⟩
theorem ev_eqS {x y : Str} (ha : Ev ta env os x) (hb : Ev tb env os y) : Ev (tOp rEq ta tb) env os (decide (x = y)) := fun {b g h σ Q} s q =>
  ha s fun v g1 h1 l1 r1 => hb (s.le l1) fun w g2 h2 l2 r2 => by
    cases r1; cases r2
    exact ⟨rfl, by rw [dec_S]; exact q _ _ _ (l1.trans l2) rfl⟩
theorem ev_neS {x y : Str} (ha : Ev ta env os x) (hb : Ev tb env os y) : Ev (tOp rNe ta tb) env os (!decide (x = y)) := fun {b g h σ Q} s q =>
  ha s fun v g1 h1 l1 r1 => hb (s.le l1) fun w g2 h2 l2 r2 => by
    cases r1; cases r2
    exact ⟨rfl, by rw [dec_S]; exact q _ _ _ (l1.trans l2) rfl⟩
theorem ev_eqB {x y : Bool} (ha : Ev ta env os x) (hb : Ev tb env os y) : Ev (tOp rEq ta tb) env os (decide (x = y)) := fun {b g h σ Q} s q =>
  ha s fun v g1 h1 l1 r1 => hb (s.le l1) fun w g2 h2 l2 r2 => by
    cases r1; cases r2
    exact ⟨rfl, by rw [dec_B]; exact q _ _ _ (l1.trans l2) rfl⟩
theorem ev_neB {x y : Bool} (ha : Ev ta env os x) (hb : Ev tb env os y) : Ev (tOp rNe ta tb) env os (!decide (x = y)) := fun {b g h σ Q} s q =>
  ha s fun v g1 h1 l1 r1 => hb (s.le l1) fun w g2 h2 l2 r2 => by
    cases r1; cases r2
    exact ⟨rfl, by rw [dec_B]; exact q _ _ _ (l1.trans l2) rfl⟩
theorem opt_non {g : Hp} {v : V} {x : Option α} (r : (instOpt (K := K) (α := α)).R g v x) : decide (v = V.non) = x.isNone := by
  cases x with
  | none => rw [show v = V.non from r]; rfl
  | some y => exact decide_eq_false r.1
theorem ev_isN {x : Option α} (ha : Ev ta env os x) : Ev (tOp (fun x y H Q => y = V.non ∧ Q (.bl (decide (x = .non))) H) ta (tC .non)) env os x.isNone := fun {b g h σ Q} s q =>
  ha s fun v g1 h1 l1 r1 => ⟨rfl, by rw [opt_non r1]; exact q _ _ _ l1 rfl⟩
theorem ev_notN {x : Option α} (ha : Ev ta env os x) : Ev (tOp (fun x y H Q => y = V.non ∧ Q (.bl (!decide (x = .non))) H) ta (tC .non)) env os (!x.isNone) := fun {b g h σ Q} s q =>
  ha s fun v g1 h1 l1 r1 => ⟨rfl, by rw [opt_non r1]; exact q _ _ _ l1 rfl⟩
/-! ### tests -/
theorem et_test {c : Bool} (h : Ev te env os c) : EvT (tTest te) env os c := fun {b g h' σ Q} s q => h s fun v g1 h1 l1 r1 => ⟨c, r1, q _ _ l1⟩
theorem et_B {c : Bool} (h : Ev te env os c) : EvT (tB te) env os c := fun {b g h' σ Q} s q => h s fun v g1 h1 l1 r1 => ⟨c, r1, q _ _ l1⟩
theorem et_and {c d : Bool} (h1 : EvT t env os c) (h2 : c = true → EvT u env os d) : EvT (tAnd t u) env os (c && d) := fun {b g h σ Q} s q => h1 s fun g1 h' l1 => by
  cases c with
  | true => exact h2 rfl (s.le l1) fun g2 h2 l2 => q _ _ (l1.trans l2)
  | false => exact q _ _ l1
theorem et_or {c d : Bool} (h1 : EvT t env os c) (h2 : c = false → EvT u env os d) : EvT (tOr t u) env os (c || d) := fun {b g h σ Q} s q => h1 s fun g1 h' l1 => by
  cases c with
  | true => exact q _ _ l1
  | false => exact h2 rfl (s.le l1) fun g2 h2 l2 => q _ _ (l1.trans l2)
theorem et_not {c : Bool} (h1 : EvT t env os c) : EvT (tNot t) env os (!c) := fun {b g h σ Q} s q => h1 s fun g1 h' l1 => q _ _ l1
theorem ev_andV {c d : Bool} (h1 : Ev ta env os c) (h2 : c = true → Ev tb env os d) : Ev (tAndV ta tb) env os (c && d) := fun {b g h σ Q} s q => h1 s fun v g1 h' l1 r1 => ⟨c, r1, by
  cases c with
  | true => exact h2 rfl (s.le l1) fun v g2 h2 l2 r2 => q _ _ _ (l1.trans l2) r2
  | false => exact q _ _ _ l1 rfl⟩
theorem ev_orV {c d : Bool} (h1 : Ev ta env os c) (h2 : c = false → Ev tb env os d) : Ev (tOrV ta tb) env os (c || d) := fun {b g h σ Q} s q => h1 s fun v g1 h' l1 r1 => ⟨c, r1, by
  cases c with
  | true => exact q _ _ _ l1 rfl
  | false => exact h2 rfl (s.le l1) fun v g2 h2 l2 r2 => q _ _ _ (l1.trans l2) r2⟩
theorem ev_notV {c : Bool} (h1 : Ev ta env os c) : Ev (tNotV ta) env os (!c) := fun {b g h σ Q} s q => h1 s fun v g1 h' l1 r1 => ⟨c, r1, q _ _ _ l1 rfl⟩
theorem ev_if {c : Bool} {x y : α} (h : EvT t env os c) (h1 : c = true → Ev ta env os x) (h2 : c = false → Ev tb env os y) : Ev (tIf t ta tb) env os (if c = true then x else y) := fun {b g h' σ Q} s q => h s fun g1 h' l1 => by
  cases c with
  | true => exact h1 rfl (s.le l1) fun v g2 h2 l2 r2 => q _ _ _ (l1.trans l2) r2
  | false => exact h2 rfl (s.le l1) fun v g2 h2 l2 r2 => q _ _ _ (l1.trans l2) r2
/-- a value's truth -/
theorem et_truL {xs : List α} (h : Ev te env os xs) : EvT (fun σ H Q => te σ H fun x H' => ∃ k, TruV K x H' k ∧ Q k H') env os (!xs.isEmpty) := fun {b g h' σ Q} s q => h s fun v g1 h1 l1 r1 => by
  obtain ⟨a, vs, rfl, h2, h3⟩ := r1
  refine ⟨_, .inl ⟨vs, l1.gh.seq h2, rfl⟩, ?_⟩
  have e : (!vs.isEmpty) = !xs.isEmpty := by cases h3 <;> rfl
  rw [e]
  exact q _ _ l1
theorem et_truT {xs : Tup α} (h : Ev te env os xs) : EvT (fun σ H Q => te σ H fun x H' => ∃ k, TruV K x H' k ∧ Q k H') env os (!xs.l.isEmpty) := fun {b g h' σ Q} s q => h s fun v g1 h1 l1 r1 => by
  obtain ⟨a, vs, rfl, h2, h3⟩ := r1
  obtain ⟨xs⟩ := xs
  refine ⟨_, .inr (.inl ⟨vs, same_seqT l1.gh h2, rfl⟩), ?_⟩
  have e : (!vs.isEmpty) = !xs.isEmpty := by cases h3 <;> rfl
  rw [e]
  exact q _ _ l1
theorem et_truB {c : Bool} (h : Ev te env os c) : EvT (fun σ H Q => te σ H fun x H' => ∃ k, TruV K x H' k ∧ Q k H') env os c := fun {b g h' σ Q} s q => h s fun v g1 h1 l1 r1 => by
  cases r1
  exact ⟨c, rfl, q _ _ l1⟩
theorem et_truI {x : Int} (h : Ev te env os x) : EvT (fun σ H Q => te σ H fun x H' => ∃ k, TruV K x H' k ∧ Q k H') env os (x != 0) := fun {b g h' σ Q} s q => h s fun v g1 h1 l1 r1 => by
  cases r1
  exact ⟨_, rfl, q _ _ l1⟩

/-! ### arguments, displays -/
theorem ea_nil : EvA tNil env os [] := fun {b g h σ Q} s q => q _ g h (Le.refl s.gh) .nil
theorem ea_cons {tr : TA} {x : α} {xs : List (Slot K)} (h : Ev ta env os x) (hr : EvA tr env os xs) : EvA (tCons ta tr) env os (sv x :: xs) := fun {b g h' σ Q} s q =>
  h s fun v g1 h1 l1 r1 => hr (s.le l1) fun vs g2 h2 l2 r2 => q _ _ _ (l1.trans l2) (.cons ⟨v, rfl, iα.mono l2.gg r1⟩ r2)
theorem el_nil : EvL tNil env os ([] : List α) := fun {b g h σ Q} s q => q _ g h (Le.refl s.gh) .nil
theorem el_cons {tr : TA} {x : α} {xs : List α} (h : Ev ta env os x) (hr : EvL tr env os xs) : EvL (tCons ta tr) env os (x :: xs) := fun {b g h' σ Q} s q =>
  h s fun v g1 h1 l1 r1 => hr (s.le l1) fun vs g2 h2 l2 r2 => q _ _ _ (l1.trans l2) (.cons (iα.mono l2.gg r1) r2)
theorem ev_tupL {tr : TA} {xs : List α} (h : EvL tr env os xs) (hl : xs.length ≤ 100000 := by first | decide | simp) : Ev (tTup tr) env os (Tup.mk xs) := fun {b g h' σ Q} s q =>
  h s fun vs g1 h1 l1 r1 => ⟨by rw [r1.length]; exact Nat.le_trans hl (by decide), fun p hp => q _ (upd g1 p (.tup vs)) _ (l1.trans (Le.laid l1.gh hp)) ⟨p, vs, rfl, .inl (.inl upd_same), pr_mono (Le.laid l1.gh hp).gg r1⟩⟩
theorem ev_lstL {tr : TA} {xs : List α} (h : EvL tr env os xs) (hl : xs.length ≤ 100000 := by first | decide | simp) : Ev (tLst tr) env os xs := fun {b g h' σ Q} s q =>
  h s fun vs g1 h1 l1 r1 => ⟨by rw [r1.length]; exact Nat.le_trans hl (by decide), fun p hp => q _ (upd g1 p (.lst vs)) _ (l1.trans (Le.laid l1.gh hp)) ⟨p, vs, rfl, .inl (.inl upd_same), pr_mono (Le.laid l1.gh hp).gg r1⟩⟩
theorem ev_pair {x : α} {y : β} (ha : Ev ta env os x) (hb : Ev tb env os y) : Ev (tTup (tCons ta (tCons tb tNil))) env os (x, y) := fun {b g h' σ Q} s q =>
  ha s fun v g1 h1 l1 r1 => hb (s.le l1) fun w g2 h2 l2 r2 => ⟨by show 2 ≤ sizeLine; decide, fun p hp => q _ (upd g2 p (.tup [v, w])) _ ((l1.trans l2).trans (Le.laid l2.gh hp))
    ⟨p, v, w, rfl, .inl (.inl upd_same), iα.mono (l2.gg.trans (Le.laid l2.gh hp).gg) r1, iβ.mono (Le.laid l2.gh hp).gg r2⟩⟩

/-! ### subscripts -/
theorem atI_map {xs : List α} {vs : List V} {g : Hp} {i : Int} {x : α} (r : Paired (iα.R g) vs xs) (h : atI xs i = some x) : ∃ v, atI vs i = some v ∧ iα.R g v x := by
  unfold atI at h ⊢
  rw [r.length]
  cases e : ixN xs.length i with
  | none => rw [e] at h; cases h
  | some j =>
    rw [e] at h
    exact paired_get r h
theorem ev_ixL {xs : List α} {i : Int} {x : α} (ha : Ev ta env os xs) (hb : Ev tb env os i) (h : atI xs i = some x) : Ev (tOp (rIxL K) ta tb) env os x := fun {b g h' σ Q} s q =>
  ha s fun v g1 h1 l1 r1 => hb (s.le l1) fun w g2 h2 l2 r2 => by
    obtain ⟨a, vs, rfl, h3, h4⟩ := r1
    obtain ⟨v, e, r⟩ := atI_map h4 h
    exact ⟨a, vs, i, v, rfl, r2, (l2.gg.trans l2.gh).seq h3, e, q _ _ _ (l1.trans l2) (iα.mono l2.gg r)⟩
theorem ev_ixT {xs : Tup α} {i : Int} {x : α} (ha : Ev ta env os xs) (hb : Ev tb env os i) (h : atI xs.l i = some x) : Ev (tOp (rIxT K) ta tb) env os x := fun {b g h' σ Q} s q =>
  ha s fun v g1 h1 l1 r1 => hb (s.le l1) fun w g2 h2 l2 r2 => by
    obtain ⟨a, vs, rfl, h3, h4⟩ := r1
    obtain ⟨v, e, r⟩ := atI_map h4 h
    exact ⟨a, vs, i, v, rfl, r2, same_seqT (l2.gg.trans l2.gh) h3, e, q _ _ _ (l1.trans l2) (iα.mono l2.gg r)⟩
theorem ev_ixP0 {x : α × β} (ha : Ev ta env os x) : Ev (tOp (rIxT K) ta (tC (.int 0))) env os x.1 := fun {b g h' σ Q} s q =>
  ha s fun v g1 h1 l1 r1 => by
    obtain ⟨a, u, w, rfl, h3, h4, h5⟩ := r1
    exact ⟨a, [u, w], 0, u, rfl, rfl, same_seqT l1.gh h3, rfl, q _ _ _ l1 h4⟩
theorem ev_ixP1 {x : α × β} (ha : Ev ta env os x) : Ev (tOp (rIxT K) ta (tC (.int 1))) env os x.2 := fun {b g h' σ Q} s q =>
  ha s fun v g1 h1 l1 r1 => by
    obtain ⟨a, u, w, rfl, h3, h4, h5⟩ := r1
    exact ⟨a, [u, w], 1, w, rfl, rfl, same_seqT l1.gh h3, rfl, q _ _ _ l1 h5⟩
theorem ev_ixS {z : Str} {i : Int} {c : Nat} (ha : Ev ta env os z) (hb : Ev tb env os i) (hz : z.length ≤ sizeLine) (h : atI z.cps.toList i = some c) : Ev (tOp rIxS ta tb) env os (⟨#[c]⟩ : Str) := fun {b g h' σ Q} s q =>
  ha s fun v g1 h1 l1 r1 => hb (s.le l1) fun w g2 h2 l2 r2 => ⟨z, i, c, r1, r2, hz, h, q _ _ _ (l1.trans l2) rfl⟩
/-! ### slices -/
theorem eo_none : EvO tNoPart env os none := fun {b g h σ Q} s q => q g h (Le.refl s.gh)
theorem eo_some {i : Int} (h : Ev te env os i) : EvO (tPart te) env os (some i) := fun {b g h' σ Q} s q => h s fun v g1 h1 l1 r1 => ⟨i, r1, q _ _ l1⟩
/-- xs[lo:hi] -/
def cut {α : Type} (xs : List α) (lo hi : Option Int) : List α := (xs.drop (HT.sIx xs.length 0 lo)).take (HT.sIx xs.length xs.length hi - HT.sIx xs.length 0 lo)
theorem paired_cut {F : V → α → Prop} {vs : List V} {xs : List α} {lo hi : Option Int} (r : Paired F vs xs) : Paired F (cutV vs lo hi) (cut xs lo hi) := by
  unfold cutV cut
  rw [r.length]
  exact paired_take _ (paired_drop _ r)
theorem ev_slL {xs : List α} {lo hi : Option Int} {tl th : TO} (ha : Ev ta env os xs) (h1 : EvO tl env os lo) (h2 : EvO th env os hi) : Ev (tSl (rSlL K) ta tl th) env os (cut xs lo hi) := fun {b g h' σ Q} s q =>
  ha s fun v g1 h3 l1 r1 => h1 (s.le l1) fun g2 h4 l2 => h2 ((s.le l1).le l2) fun g3 h5 l3 => by
    obtain ⟨a, vs, rfl, h6, h7⟩ := r1
    have l := l2.trans l3
    refine ⟨a, vs, rfl, (l.gg.trans l.gh).seq h6, fun p hp => q _ (upd g3 p (.lst (cutV vs lo hi))) _ ((l1.trans l).trans (Le.laid l3.gh hp)) ⟨p, _, rfl, .inl (.inl upd_same), pr_mono (l.gg.trans (Le.laid l3.gh hp).gg) (paired_cut h7)⟩⟩
theorem ev_slT {xs : Tup α} {lo hi : Option Int} {tl th : TO} (ha : Ev ta env os xs) (h1 : EvO tl env os lo) (h2 : EvO th env os hi) : Ev (tSl (rSlA K) ta tl th) env os (Tup.mk (cut xs.l lo hi)) := fun {b g h' σ Q} s q =>
  ha s fun v g1 h3 l1 r1 => h1 (s.le l1) fun g2 h4 l2 => h2 ((s.le l1).le l2) fun g3 h5 l3 => by
    obtain ⟨a, vs, rfl, h6, h7⟩ := r1
    have l := l2.trans l3
    refine ⟨a, vs, rfl, same_seqT (l.gg.trans l.gh) h6, fun hw => ?_, fun _ p hp => q _ (upd g3 p (.tup (cutV vs lo hi))) _ ((l1.trans l).trans (Le.laid l3.gh hp)) ⟨p, _, rfl, .inl (.inl upd_same), pr_mono (l.gg.trans (Le.laid l3.gh hp).gg) (paired_cut h7)⟩⟩
    have e : cut xs.l lo hi = xs.l := by
      unfold cut
      rw [← h7.length, hw.1, hw.2, h7.length]
      simp
    exact q _ _ _ (l1.trans l) ⟨a, vs, rfl, same_seqT l.gg h6, by rw [e]; exact pr_mono l.gg h7⟩
/-! ### tuple + tuple, list + list, repeats -/
theorem ev_catT {xs ys : Tup α} (ha : Ev ta env os xs) (hb : Ev tb env os ys) (hl : xs.l.length + ys.l.length ≤ sizeLine) : Ev (tOp (rCatA K) ta tb) env os (Tup.mk (xs.l ++ ys.l)) := fun {b g h' σ Q} s q =>
  ha s fun v g1 h1 l1 r1 => hb (s.le l1) fun w g2 h2 l2 r2 => by
    obtain ⟨a, vs, rfl, h3, h4⟩ := r1
    obtain ⟨a', ws, rfl, h5, h6⟩ := r2
    have h3' := same_seqT l2.gg h3
    have h4' := pr_mono l2.gg h4
    refine ⟨a, a', vs, ws, rfl, rfl, same_seqT l2.gh h3', same_seqT l2.gh h5, by rw [h4.length, h6.length]; exact hl, fun e => ?_, fun _ e => ?_, fun _ _ p hp => ?_⟩
    · subst e
      have e : xs.l = [] := by cases xs with | mk l => cases h4; rfl
      exact q _ _ _ (l1.trans l2) ⟨a', ws, rfl, h5, by rw [e]; exact h6⟩
    · subst e
      have e : ys.l = [] := by cases ys with | mk l => cases h6; rfl
      exact q _ _ _ (l1.trans l2) ⟨a, vs, rfl, h3', by rw [e, List.append_nil]; exact h4'⟩
    · exact q _ (upd g2 p (.tup (vs ++ ws))) _ ((l1.trans l2).trans (Le.laid l2.gh hp)) ⟨p, _, rfl, .inl (.inl upd_same), pr_mono (Le.laid l2.gh hp).gg (paired_append h4' h6)⟩
/-! ### built-ins on data -/
theorem ev_cb1 {r : List V → Hp → VK → Prop} {x : α} {z : β} (ha : Ev ta env os x) (hr : ∀ v g h, Same g h → iα.R g v x → ∀ Q : VK, (∀ v' g' h', Le g h g' h' → iβ.R g' v' z → Q v' h') → r [v] h Q) : Ev (tCB r (tCons ta tNil)) env os z := fun {b g h' σ Q} s q =>
  ha s fun v g1 h1 l1 r1 => hr v g1 h1 l1.gh r1 Q fun v' g' h' l2 r2 => q _ _ _ (l1.trans l2) r2
theorem ev_cb2 {r : List V → Hp → VK → Prop} {x : α} {y : γ} {z : β} (ha : Ev ta env os x) (hb : Ev tb env os y) (hr : ∀ v w g h, Same g h → iα.R g v x → iγ.R g w y → ∀ Q : VK, (∀ v' g' h', Le g h g' h' → iβ.R g' v' z → Q v' h') → r [v, w] h Q) : Ev (tCB r (tCons ta (tCons tb tNil))) env os z := fun {b g h' σ Q} s q =>
  ha s fun v g1 h1 l1 r1 => hb (s.le l1) fun w g2 h2 l2 r2 => hr v w g2 h2 l2.gh (iα.mono l2.gg r1) r2 Q fun v' g' h' l3 r3 => q _ _ _ ((l1.trans l2).trans l3) r3
/-- the readings of len, list, tuple as the library's rules print them -/
abbrev rLenQ (K : PySem.W.Frag) : List V → Hp → VK → Prop := fun xs H Q => ∃ p ys, xs = [V.ref p] ∧ (SqL K H p ys ∨ SqT K H p ys) ∧ Q (.int ys.length) H
theorem ev_lenL {xs : List α} (ha : Ev ta env os xs) : Ev (tCB (fun xs H Q => ∃ p ys, xs = [V.ref p] ∧ (SqL K H p ys ∨ SqT K H p ys) ∧ Q (.int ys.length) H) (tCons ta tNil)) env os (xs.length : Int) := ev_cb1 ha fun v g h e r Q q => by
  obtain ⟨a, vs, rfl, h1, h2⟩ := r
  exact ⟨a, vs, rfl, .inl (e.seq h1), q _ g h (Le.refl e) (by rw [h2.length]; rfl)⟩
theorem ev_lenT {xs : Tup α} (ha : Ev ta env os xs) : Ev (tCB (fun xs H Q => ∃ p ys, xs = [V.ref p] ∧ (SqL K H p ys ∨ SqT K H p ys) ∧ Q (.int ys.length) H) (tCons ta tNil)) env os (xs.l.length : Int) := ev_cb1 ha fun v g h e r Q q => by
  obtain ⟨a, vs, rfl, h1, h2⟩ := r
  exact ⟨a, vs, rfl, .inr (same_seqT e h1), q _ g h (Le.refl e) (by rw [h2.length]; rfl)⟩
theorem ev_lenS {z : Str} (ha : Ev ta env os z) (hz : z.length ≤ sizeLine) : Ev (tCB (fun xs H Q => ∃ z, xs = [V.str z] ∧ z.length ≤ sizeLine ∧ Q (.int z.length) H) (tCons ta tNil)) env os (z.length : Int) := ev_cb1 ha fun v g h e r Q q => by
  cases r
  exact ⟨z, rfl, hz, q _ g h (Le.refl e) rfl⟩
theorem ev_listL {xs : List α} (ha : Ev ta env os xs) : Ev (tCB (fun xs H Q => ∃ p ys, xs = [V.ref p] ∧ (SqL K H p ys ∨ SqT K H p ys) ∧ ∀ l, H l = none → Q (.ref l) (upd H l (.lst ys))) (tCons ta tNil)) env os xs := ev_cb1 ha fun v g h e r Q q => by
  obtain ⟨a, vs, rfl, h1, h2⟩ := r
  exact ⟨a, vs, rfl, .inl (e.seq h1), fun l hl => q _ (upd g l (.lst vs)) _ (Le.laid e hl) ⟨l, vs, rfl, .inl (.inl upd_same), pr_mono (Le.laid e hl).gg h2⟩⟩
theorem ev_listT {xs : Tup α} (ha : Ev ta env os xs) : Ev (tCB (fun xs H Q => ∃ p ys, xs = [V.ref p] ∧ (SqL K H p ys ∨ SqT K H p ys) ∧ ∀ l, H l = none → Q (.ref l) (upd H l (.lst ys))) (tCons ta tNil)) env os xs.l := ev_cb1 ha fun v g h e r Q q => by
  obtain ⟨a, vs, rfl, h1, h2⟩ := r
  exact ⟨a, vs, rfl, .inr (same_seqT e h1), fun l hl => q _ (upd g l (.lst vs)) _ (Le.laid e hl) ⟨l, vs, rfl, .inl (.inl upd_same), pr_mono (Le.laid e hl).gg h2⟩⟩
theorem ev_tupleL {xs : List α} (ha : Ev ta env os xs) : Ev (tCB (fun xs H Q => ∃ p ys, xs = [V.ref p] ∧ ((SqL K H p ys ∧ ∀ l, H l = none → Q (.ref l) (upd H l (.tup ys))) ∨ (SqT K H p ys ∧ Q (.ref p) H))) (tCons ta tNil)) env os (Tup.mk xs) := ev_cb1 ha fun v g h e r Q q => by
  obtain ⟨a, vs, rfl, h1, h2⟩ := r
  exact ⟨a, vs, rfl, .inl ⟨e.seq h1, fun l hl => q _ (upd g l (.tup vs)) _ (Le.laid e hl) ⟨l, vs, rfl, .inl (.inl upd_same), pr_mono (Le.laid e hl).gg h2⟩⟩⟩
theorem ev_tupleT {xs : Tup α} (ha : Ev ta env os xs) : Ev (tCB (fun xs H Q => ∃ p ys, xs = [V.ref p] ∧ ((SqL K H p ys ∧ ∀ l, H l = none → Q (.ref l) (upd H l (.tup ys))) ∨ (SqT K H p ys ∧ Q (.ref p) H))) (tCons ta tNil)) env os xs := ev_cb1 ha fun v g h e r Q q => by
  obtain ⟨a, vs, rfl, h1, h2⟩ := r
  exact ⟨a, vs, rfl, .inr ⟨same_seqT e h1, q _ g h (Le.refl e) ⟨a, vs, rfl, h1, h2⟩⟩⟩
theorem ev_sum {xs : List Int} (ha : Ev ta env os xs) : Ev (tCB (rSum K) (tCons ta tNil)) env os xs.sum := ev_cb1 ha fun v g h e r Q q => by
  obtain ⟨a, vs, rfl, h1, h2⟩ := r
  refine ⟨a, xs, rfl, ?_, q _ g h (Le.refl e) rfl⟩
  rw [← paired_eq h2]
  exact e.seq h1
theorem ev_any {xs : List Bool} (ha : Ev ta env os xs) : Ev (tCB (rAny K) (tCons ta tNil)) env os (xs.any id) := ev_cb1 ha fun v g h e r Q q => by
  obtain ⟨a, vs, rfl, h1, h2⟩ := r
  refine ⟨a, xs, rfl, ?_, q _ g h (Le.refl e) rfl⟩
  rw [← paired_eq h2]
  exact e.seq h1
theorem ev_all {xs : List Bool} (ha : Ev ta env os xs) : Ev (tCB (rAll K) (tCons ta tNil)) env os (xs.all id) := ev_cb1 ha fun v g h e r Q q => by
  obtain ⟨a, vs, rfl, h1, h2⟩ := r
  refine ⟨a, xs, rfl, ?_, q _ g h (Le.refl e) rfl⟩
  rw [← paired_eq h2]
  exact e.seq h1
theorem ev_intI {x : Int} (ha : Ev ta env os x) : Ev (tCB (fun xs H Q => (∃ i, xs = [V.int i] ∧ Q (.int i) H) ∨ ∃ k, xs = [V.bl k] ∧ Q (.int (if k then 1 else 0)) H) (tCons ta tNil)) env os x := ev_cb1 ha fun v g h e r Q q => by
  cases r
  exact .inl ⟨x, rfl, q _ g h (Le.refl e) rfl⟩
theorem ev_intB {x : Bool} (ha : Ev ta env os x) : Ev (tCB (fun xs H Q => (∃ i, xs = [V.int i] ∧ Q (.int i) H) ∨ ∃ k, xs = [V.bl k] ∧ Q (.int (if k then 1 else 0)) H) (tCons ta tNil)) env os (if x then 1 else 0 : Int) := ev_cb1 ha fun v g h e r Q q => by
  cases r
  exact .inr ⟨x, rfl, q _ g h (Le.refl e) rfl⟩
theorem ev_max2 {x y : Int} (ha : Ev ta env os x) (hb : Ev tb env os y) : Ev (tCB (fun xs H Q => ∃ i j, xs = [V.int i, V.int j] ∧ Q (.int (if j > i then j else i)) H) (tCons ta (tCons tb tNil))) env os (if y > x then y else x) := ev_cb2 ha hb fun v w g h e r1 r2 Q q => by
  cases r1; cases r2
  exact ⟨x, y, rfl, q _ g h (Le.refl e) rfl⟩
theorem ev_min2 {x y : Int} (ha : Ev ta env os x) (hb : Ev tb env os y) : Ev (tCB (fun xs H Q => ∃ i j, xs = [V.int i, V.int j] ∧ Q (.int (if j < i then j else i)) H) (tCons ta (tCons tb tNil))) env os (if y < x then y else x) := ev_cb2 ha hb fun v w g h e r1 r2 Q q => by
  cases r1; cases r2
  exact ⟨x, y, rfl, q _ g h (Le.refl e) rfl⟩
theorem ev_gcd {x y : Int} (ha : Ev ta env os x) (hb : Ev tb env os y) : Ev (tCB rGcd (tCons ta (tCons tb tNil))) env os ((Nat.gcd x.natAbs y.natAbs : Nat) : Int) := ev_cb2 ha hb fun v w g h e r1 r2 Q q => by
  cases r1; cases r2
  exact ⟨x, y, rfl, q _ g h (Le.refl e) rfl⟩
theorem ev_abs {x : Int} (ha : Ev ta env os x) : Ev (tCB (fun xs H Q => ∃ i, xs = [V.int i] ∧ Q (.int (if i < 0 then -i else i)) H) (tCons ta tNil)) env os (if x < 0 then -x else x) := ev_cb1 ha fun v g h e r Q q => by
  cases r
  exact ⟨x, rfl, q _ g h (Le.refl e) rfl⟩
end
end Lw
/-! Statements, loops, comprehensions, calls over told states. -/
namespace Lw
open PySem PySem.Spec PyProof.Rows L2
section
variable {K : PySem.W.Frag} {env : Env K} {os : Os} {ta tb te tx : TE} {t u : TT} {α β γ : Type} [iα : Py K α] [iβ : Py K β] [iγ : Py K γ]
variable {b : Bs} {g h : Hp} {σ : L2.St} {D : Ends} {t1 t2 : TS} {i j : Nat}
theorem st_set {x : α} (s : S0 b g h σ env os) (e : Ev te env os x) (k : ∀ v g' h', S0 b g' h' (σ.set i (some v)) (env.set i (sv x)) os → D.nx (σ.set i (some v)) h') : tAsg te (gName i) D σ h :=
  e s fun v g' h' l r => k v g' h' ((s.le l).set ⟨v, rfl, r⟩)
theorem st_drop {x : α} (s : S0 b g h σ env os) (e : Ev te env os x) (k : ∀ g' h', S0 b g' h' σ env os → D.nx σ h') : tDrop te D σ h :=
  e s fun v g' h' l r => k g' h' (s.le l)
theorem st_ret {x : α} (s : S0 b g h σ env os) (e : Ev te env os x) (k : ∀ v g' h', S0 b g' h' σ env os → iα.R g' v x → D.rt v h') : tRet te D σ h :=
  e s fun v g' h' l r => k v g' h' (s.le l) r
theorem st_if {c : Bool} (s : S0 b g h σ env os) (e : EvT t env os c) (k1 : c = true → ∀ g' h', S0 b g' h' σ env os → t1 D σ h') (k2 : c = false → ∀ g' h', S0 b g' h' σ env os → t2 D σ h') : tIfS t t1 t2 D σ h :=
  e s fun g' h' l => by
    cases c with
    | true => exact k1 rfl g' h' (s.le l)
    | false => exact k2 rfl g' h' (s.le l)
theorem st_aug {f : Int → Int → Int} {x y : Int} (s : S0 b g h σ env os) (e : env[i]? = some (.val Int inferInstance x)) (ey : Ev te env os y) (k : ∀ v g' h', S0 b g' h' (σ.set i (some v)) (env.set i (sv (f x y))) os → D.nx (σ.set i (some v)) h') : tAug i te (ipI f) D σ h := by
  obtain ⟨v, h1, h2⟩ := s.sl i _ e
  refine ⟨v, ?_, ey s fun w g' h' l r => ⟨x, y, h2, r, k _ g' h' ((s.le l).set ⟨_, rfl, rfl⟩)⟩⟩
  cases hs : σ[i]? with
  | none => rw [hs] at h1; cases h1
  | some o => rw [hs] at h1; rw [show o = some v from h1]

/-! ### another base -/
abbrev Bs.at (b : Bs) (g : Hp) : Bs := { b with g := g }
theorem S0.enter (s : S0 b g h σ env os) : S0 (b.at g) g h σ env os := { s with gg := Same.refl _, new := fun _ n _ => n }
theorem S0.leave {g1 h1 : Hp} {σ1 : L2.St} {env1 : Env K} {os1 : Os} (s1 : S0 b g1 h1 σ1 env1 os1) (s : S0 (b.at g1) g h σ env os) : S0 b g h σ env os :=
  { s with gg := s1.gg.trans s.gg, new := fun a n m => s.new a (s1.new a n m) m }

/-! ### targets -/
/-- the target g, from a value of x, makes of the slots f env x -/
def TgtF (g : TG) (vs : List Nat) (f : Env K → α → Env K) : Prop :=
  ∀ {b : Bs} {g1 H : Hp} {σ : L2.St} {v : V} {os : Os} {Q : L2.St → Hp → Prop} {env : Env K} {x : α}, S0 b g1 H σ env os → iα.R g1 v x → (∀ σ2, wipe σ2 vs = wipe σ vs → S0 b g1 H σ2 (f env x) os → Q σ2 H) → g v σ H Q
theorem tgt_name : TgtF (K := K) (α := α) (gName i) [i] (fun env x => env.set i (sv x)) := fun {b g1 H σ v os Q env x} s r q =>
  q _ (by show (σ.set i (some v)).set i none = σ.set i none; rw [List.set_set]) (s.set ⟨v, rfl, r⟩)
theorem tgt_pair : TgtF (K := K) (α := α × β) (gTup K 2 (gCons (gName i) (gCons (gName j) gNil))) [i, j] (fun env x => (env.set i (sv x.1)).set j (sv x.2)) := fun {b g1 H σ v os Q env x} s r q => by
  obtain ⟨a, u, w, rfl, h1, h2, h3⟩ := r
  refine ⟨a, [u, w], rfl, same_seqT s.gh h1, rfl, u, [w], rfl, w, [], rfl, rfl, q _ ?_ ((s.set (t := sv x.1) ⟨u, rfl, h2⟩).set (t := sv x.2) ⟨w, rfl, h3⟩)⟩
  show ((((σ.set i (some u)).set j (some w)).set j none).set i none) = (σ.set j none).set i none
  rw [List.set_set]
  by_cases hij : i = j
  · subst hij; rw [List.set_set, List.set_set, List.set_set]
  · rw [List.set_comm (some u) none hij, List.set_set]

/-! ### loops -/
section
variable {tb : TS} {I : Nat → Env K → Os → Prop} {gt : TG} {ws : List Nat} {f : Env K → α → Env K}
/-- one turn: from the item's store on, N to be reached by the next invariant -/
abbrev Turn1 (b : Bs) (D : Ends) (tb : TS) (I : Nat → Env K → Os → Prop) (n : Nat) (f : Env K → Env K) : Prop :=
  ∀ (c : Bs) (_ : c.ls = b.ls) (env' : Env K) (os' : Os) (g' h' : Hp) (σ' : L2.St) (N : L2.St → Hp → Prop), I n env' os' → (∀ {g2 h2 σ2} {env2 : Env K} {os2}, S0 c g2 h2 σ2 env2 os2 → S0 b g2 h2 σ2 env2 os2) →
    S0 c g' h' σ' (f env') os' → (∀ env2 os2 g2 h2 σ2, I (n + 1) env2 os2 → S0 c g2 h2 σ2 env2 os2 → N σ2 h2) → tb { D with nx := N, ct := N, bk := D.nx } σ' h'
theorem turn1_go (hg : TgtF (K := K) gt ws f) {n : Nat} {x : α} {env' : Env K} {os' : Os} {g' h' : Hp} {σ' : L2.St} {v : V} {N : L2.St → Hp → Prop} (hs : Turn1 b D tb I n (fun e => f e x)) (hI : I n env' os') (s' : S0 b g' h' σ' env' os') (r : iα.R g' v x)
    (hN : ∀ env2 os2 g2 h2 σ2, Same g' g2 → I (n + 1) env2 os2 → S0 b g2 h2 σ2 env2 os2 → N σ2 h2) : gt v σ' h' fun σ2 h2 => tb { D with nx := N, ct := N, bk := D.nx } σ2 h2 :=
  hg s'.enter r fun σ2 _ s2 => hs (b.at g') rfl env' os' g' h' σ2 N hI (fun s3 => s'.leave s3) s2 fun env2 os2 g2 h2 σ2 hI2 s2 => hN env2 os2 g2 h2 σ2 s2.gg hI2 (s'.leave s2)
theorem st_for_list {xs : List α} (hg : TgtF (K := K) gt ws f) (s : S0 b g h σ env os) (e : Ev te env os xs) (I : Nat → Env K → Os → Prop) (h0 : I 0 env os)
    (hs : ∀ n x, xs[n]? = some x → Turn1 b D tb I n (fun e => f e x)) (hd : ∀ env' os' g' h' σ', I xs.length env' os' → S0 b g' h' σ' env' os' → D.nx σ' h') : tFor (iList K te) gt tb D σ h := by
  refine e s fun v g1 h1 l1 r1 => ?_
  obtain ⟨a, vs, rfl, hq, hp⟩ := r1
  refine ⟨a, rfl, ⟨vs, l1.gh.seq hq⟩, for_list (K := K) (a := a) (xs := vs) (fun n σ' h' => ∃ g' env' os', Same g1 g' ∧ I n env' os' ∧ S0 b g' h' σ' env' os') ⟨g1, env, os, Same.refl _, h0, s.le l1⟩ (fun n σ' h' _ ⟨g', _, _, e1, _, s'⟩ => (e1.trans s'.gh).seq hq) ?_ ?_⟩
  · rintro n x σ' h' hx ⟨g', env', os', e1, hI, s'⟩
    obtain ⟨y, hy, ry⟩ := paired_getL hp hx
    exact turn1_go hg (hs n y hy) hI s' (iα.mono e1 ry) fun env2 os2 g2 h2 σ2 e2 hI2 s2 => ⟨g2, env2, os2, e1.trans e2, hI2, s2⟩
  · rintro σ' h' ⟨g', env', os', e1, hI, s'⟩
    rw [hp.length] at hI
    exact hd env' os' g' h' σ' hI s'
theorem st_for_tup {xs : Tup α} (hg : TgtF (K := K) gt ws f) (s : S0 b g h σ env os) (e : Ev te env os xs) (I : Nat → Env K → Os → Prop) (h0 : I 0 env os)
    (hs : ∀ n x, xs.l[n]? = some x → Turn1 b D tb I n (fun e => f e x)) (hd : ∀ env' os' g' h' σ', I xs.l.length env' os' → S0 b g' h' σ' env' os' → D.nx σ' h') : tFor (iTup K te) gt tb D σ h := by
  refine e s fun v g1 h1 l1 r1 => ?_
  obtain ⟨a, vs, rfl, hq, hp⟩ := r1
  refine ⟨a, rfl, ⟨vs, same_seqT l1.gh hq⟩, for_tup (K := K) (a := a) (xs := vs) (fun n σ' h' => ∃ g' env' os', Same g1 g' ∧ I n env' os' ∧ S0 b g' h' σ' env' os') ⟨g1, env, os, Same.refl _, h0, s.le l1⟩ (fun n σ' h' _ ⟨g', _, _, e1, _, s'⟩ => same_seqT (e1.trans s'.gh) hq) ?_ ?_⟩
  · rintro n x σ' h' hx ⟨g', env', os', e1, hI, s'⟩
    obtain ⟨y, hy, ry⟩ := paired_getL hp hx
    exact turn1_go hg (hs n y hy) hI s' (iα.mono e1 ry) fun env2 os2 g2 h2 σ2 e2 hI2 s2 => ⟨g2, env2, os2, e1.trans e2, hI2, s2⟩
  · rintro σ' h' ⟨g', env', os', e1, hI, s'⟩
    rw [hp.length] at hI
    exact hd env' os' g' h' σ' hI s'
theorem st_for_range {n : Int} (s : S0 b g h σ env os) (e : Ev te env os n) (hn : n < 2 ^ 62) (hn0 : -(2 ^ 62) ≤ n) (I : Nat → Env K → Os → Prop) (h0 : I 0 env os)
    (hs : ∀ m : Nat, m < n.toNat → Turn1 b D tb I m (fun e => e.set j (sv ((m : Nat) : Int)))) (hd : ∀ env' os' g' h' σ', I n.toNat env' os' → S0 b g' h' σ' env' os' → D.nx σ' h') : tFor (iRng1 (tCons te tNil)) (gName j) tb D σ h := by
  refine e s fun v g1 h1 l1 r1 => ?_
  cases r1
  refine ⟨n, rfl, hn0, hn, for_range (lo := 0) (n := n.toNat) (fun n σ' h' => ∃ g' env' os', I n env' os' ∧ S0 b g' h' σ' env' os') ⟨g1, env, os, h0, s.le l1⟩ ?_ ?_⟩
  · rintro m σ' h' hm ⟨g', env', os', hI, s'⟩
    exact turn1_go (tgt_name (α := Int)) (hs m hm) hI s' (by show V.int (0 + (m : Int)) = V.int (m : Int); rw [Int.zero_add]) fun env2 os2 g2 h2 σ2 e2 hI2 s2 => ⟨g2, env2, os2, hI2, s2⟩
  · rintro σ' h' ⟨g', env', os', hI, s'⟩
    exact hd env' os' g' h' σ' hI s'
theorem st_for_range2 {m n : Int} {te' : TE} (s : S0 b g h σ env os) (e' : Ev te' env os m) (e : Ev te env os n) (hb : -(2 ^ 62) ≤ m ∧ m < 2 ^ 62 ∧ -(2 ^ 62) ≤ n ∧ n < 2 ^ 62) (I : Nat → Env K → Os → Prop) (h0 : I 0 env os)
    (hs : ∀ k : Nat, k < (n - m).toNat → Turn1 b D tb I k (fun e => e.set j (sv (m + (k : Int))))) (hd : ∀ env' os' g' h' σ', I (n - m).toNat env' os' → S0 b g' h' σ' env' os' → D.nx σ' h') : tFor (iRng2 (tCons te' (tCons te tNil))) (gName j) tb D σ h := by
  refine e' s fun v g1 h1 l1 r1 => e (s.le l1) fun w g2 h2 l2 r2 => ?_
  cases r1; cases r2
  refine ⟨m, n, rfl, hb, for_range (lo := m) (n := (n - m).toNat) (fun n σ' h' => ∃ g' env' os', I n env' os' ∧ S0 b g' h' σ' env' os') ⟨g2, env, os, h0, (s.le l1).le l2⟩ ?_ ?_⟩
  · rintro k σ' h' hk ⟨g', env', os', hI, s'⟩
    exact turn1_go (tgt_name (α := Int)) (hs k hk) hI s' rfl fun env2 os2 g2 h2 σ2 e2 hI2 s2 => ⟨g2, env2, os2, hI2, s2⟩
  · rintro σ' h' ⟨g', env', os', hI, s'⟩
    exact hd env' os' g' h' σ' hI s'
end
/-- while: I with its measure m; from I the test gives c, then the body or the end -/
theorem st_while {tc : TT} {tb : TS} (s : S0 b g h σ env os) (I : Nat → Env K → Os → Prop) (m0 : Nat) (h0 : I m0 env os)
    (hs : ∀ m env' os' g' h' σ', I m env' os' → S0 b g' h' σ' env' os' → ∃ c, EvT tc env' os' c ∧
      (c = true → ∀ g2 h2 (N : L2.St → Hp → Prop), S0 b g2 h2 σ' env' os' → (∀ m3 env3 os3 g3 h3 σ3, m3 < m → I m3 env3 os3 → S0 b g3 h3 σ3 env3 os3 → N σ3 h3) → tb { D with nx := N, ct := N, bk := D.nx } σ' h2) ∧
      (c = false → ∀ g2 h2, S0 b g2 h2 σ' env' os' → D.nx σ' h2)) : tWhile tc tb D σ h := by
  refine ⟨fun m σ h => ∃ g env os, I m env os ∧ S0 b g h σ env os, ⟨m0, g, env, os, h0, s⟩, ?_⟩
  rintro m σ' h' ⟨g', env', os', hI, s'⟩
  obtain ⟨c, e, k1, k2⟩ := hs m env' os' g' h' σ' hI s'
  refine e s' fun g2 h2 l => ?_
  cases c with
  | true => exact ⟨fun σ h => ∃ m', m' < m ∧ ∃ g env os, I m' env os ∧ S0 b g h σ env os, fun σ3 h3 ⟨m', hm, q⟩ => ⟨m', hm, q⟩, k1 rfl g2 h2 _ (s'.le l) fun m3 env3 os3 g3 h3 σ3 hm hI3 s3 => ⟨m3, hm, g3, env3, os3, hI3, s3⟩⟩
  | false => exact k2 rfl g2 h2 (s'.le l)

/-! ### owned lists -/
def Own.lst (K : PySem.W.Frag) {α : Type} [i : Py K α] (xs : List α) : Own := ⟨fun g o => ∃ vs, o = .lst vs ∧ Paired (i.R g) vs xs, fun {g g' o} e ⟨vs, h1, h2⟩ => ⟨vs, h1, pr_mono e h2⟩⟩
/-- x = [..], the list to be changed later -/
theorem st_new {xs : List α} {tl : TA} (s : S0 b g h σ env os) (e : EvL tl env os xs) (hl : xs.length ≤ 100000) (k : ∀ l g' h', S0 b g' h' (σ.set i (some (.ref l))) (env.set i (sv (V.ref l))) (os ++ [(l, Own.lst K xs)]) → D.nx (σ.set i (some (.ref l))) h') : tAsg (tLst tl) (gName i) D σ h :=
  e s fun vs g1 h1 l1 r1 => ⟨by rw [r1.length]; exact Nat.le_trans hl (by decide), fun p hp => k p g1 _ (((s.le l1).add (w := Own.lst K xs) hp ⟨vs, rfl, r1⟩).set ⟨_, rfl, rfl⟩)⟩
/-- x = e, e's value a new list of xs (by a display, a slice, list(), a comprehension ..), to be changed later: it must be new -/
def EvN (te : TE) (env : Env K) (os : Os) (xs : List α) : Prop :=
  ∀ {b : Bs} {g h : Hp} {σ : L2.St} {Q : VK}, S0 b g h σ env os → (∀ l vs g' h', Le g h g' h' → h' l = none → Paired (iα.R g') vs xs → Q (.ref l) (upd h' l (.lst vs))) → te σ h Q
theorem en_lst {xs : List α} {tl : TA} (e : EvL tl env os xs) (hl : xs.length ≤ 100000) : EvN (tLst tl) env os xs := fun {b g h σ Q} s q =>
  e s fun vs g1 h1 l1 r1 => ⟨by rw [r1.length]; exact Nat.le_trans hl (by decide), fun p hp => q p vs g1 h1 l1 hp r1⟩
theorem en_listL {xs : List α} (ha : Ev ta env os xs) : EvN (tCB (fun xs H Q => ∃ p ys, xs = [V.ref p] ∧ (SqL K H p ys ∨ SqT K H p ys) ∧ ∀ l, H l = none → Q (.ref l) (upd H l (.lst ys))) (tCons ta tNil)) env os xs := fun {b g h σ Q} s q =>
  ha s fun v g1 h1 l1 r1 => by
    obtain ⟨a, vs, rfl, h2, h3⟩ := r1
    exact ⟨a, vs, rfl, .inl (l1.gh.seq h2), fun l hl => q l vs g1 h1 l1 hl h3⟩
theorem en_listT {xs : Tup α} (ha : Ev ta env os xs) : EvN (tCB (fun xs H Q => ∃ p ys, xs = [V.ref p] ∧ (SqL K H p ys ∨ SqT K H p ys) ∧ ∀ l, H l = none → Q (.ref l) (upd H l (.lst ys))) (tCons ta tNil)) env os xs.l := fun {b g h σ Q} s q =>
  ha s fun v g1 h1 l1 r1 => by
    obtain ⟨a, vs, rfl, h2, h3⟩ := r1
    exact ⟨a, vs, rfl, .inr (same_seqT l1.gh h2), fun l hl => q l vs g1 h1 l1 hl h3⟩
theorem st_setN {xs : List α} (s : S0 b g h σ env os) (e : EvN te env os xs) (k : ∀ l g' h', S0 b g' h' (σ.set i (some (.ref l))) (env.set i (sv (V.ref l))) (os ++ [(l, Own.lst K xs)]) → D.nx (σ.set i (some (.ref l))) h') : tAsg te (gName i) D σ h :=
  e s fun l vs g1 h1 l1 hl r1 => k l g1 _ (((s.le l1).add (w := Own.lst K xs) hl ⟨vs, rfl, r1⟩).set ⟨_, rfl, rfl⟩)
/-- x.append(e) -/
theorem st_append {m : Nat} {l : Addr} {xs : List α} {x : α} (s : S0 b g h σ env os) (hx : env[i]? = some (.val V inferInstance (V.ref l))) (ho : os[m]? = some (l, Own.lst K xs)) (hl : xs.length < sizeLine) (e : Ev te env os x)
    (k : ∀ g' h', S0 b g' h' σ env (os.set m (l, Own.lst K (xs ++ [x]))) → D.nx σ h') : tDrop (tBM K "list" rAppend (tVar i) (tCons te tNil)) D σ h := by
  unfold tDrop tBM
  refine ev_var hx s fun v g1 h1 l1 r1 => ?_
  cases r1
  have s1 := s.le l1
  obtain ⟨n1, o, e1, vs, rfl, p1⟩ := s1.own _ (List.mem_of_getElem? ho)
  refine ⟨.inl ⟨rfl, vs, SqL.of e1⟩, e s1 fun v g2 h2 l2 r2 => ?_⟩
  have s2 := s1.le l2
  obtain ⟨n2, o, e2, ws, rfl, p2⟩ := s2.own _ (List.mem_of_getElem? ho)
  exact ⟨l, ws, v, rfl, rfl, e2, by rw [p2.length]; exact hl, k g2 _ (s2.put (w' := Own.lst K (xs ++ [x])) ho ⟨_, rfl, paired_append p2 (.cons r2 .nil)⟩)⟩
/-- an owned list is looked at -/
theorem own_seq {m : Nat} {l : Addr} {xs : List α} (s : S0 b g h σ env os) (ho : os[m]? = some (l, Own.lst K xs)) : ∃ vs, h l = some (.lst vs) ∧ Paired (iα.R g) vs xs := by
  obtain ⟨n1, o, e1, vs, rfl, p1⟩ := s.own _ (List.mem_of_getElem? ho)
  exact ⟨vs, e1, p1⟩
theorem ev_lenO {m : Nat} {l : Addr} {xs : List α} (hx : env[i]? = some (.val V inferInstance (V.ref l))) (ho : os[m]? = some (l, Own.lst K xs)) : Ev (tCB (fun xs H Q => ∃ p ys, xs = [V.ref p] ∧ (SqL K H p ys ∨ SqT K H p ys) ∧ Q (.int ys.length) H) (tCons (tVar i) tNil)) env os (xs.length : Int) := fun {b g h σ Q} s q =>
  ev_var hx s fun v g1 h1 l1 r1 => by
    cases r1
    obtain ⟨vs, e, p⟩ := own_seq (s.le l1) ho
    exact ⟨l, vs, rfl, .inl (SqL.of e), q _ _ _ l1 (by rw [p.length]; rfl)⟩
theorem ev_ixO {m : Nat} {l : Addr} {xs : List α} {x : α} {n : Int} (hx : env[i]? = some (.val V inferInstance (V.ref l))) (ho : os[m]? = some (l, Own.lst K xs)) (hb : Ev tb env os n) (hn : atI xs n = some x) : Ev (tOp (rIxL K) (tVar i) tb) env os x := fun {b g h σ Q} s q =>
  ev_var hx s fun v g1 h1 l1 r1 => hb (s.le l1) fun w g2 h2 l2 r2 => by
    cases r1
    obtain ⟨vs, e, p⟩ := own_seq ((s.le l1).le l2) ho
    obtain ⟨v, e', r⟩ := atI_map p hn
    exact ⟨l, vs, n, v, rfl, r2, SqL.of e, e', q _ _ _ (l1.trans l2) r⟩
theorem ev_sumO {m : Nat} {l : Addr} {xs : List Int} (hx : env[i]? = some (.val V inferInstance (V.ref l))) (ho : os[m]? = some (l, Own.lst K xs)) : Ev (tCB (rSum K) (tCons (tVar i) tNil)) env os xs.sum := fun {b g h σ Q} s q =>
  ev_var hx s fun v g1 h1 l1 r1 => by
    cases r1
    obtain ⟨vs, e, p⟩ := own_seq (s.le l1) ho
    refine ⟨l, xs, rfl, ?_, q _ _ _ l1 rfl⟩
    rw [← paired_eq p]
    exact SqL.of e
theorem ev_tupleO {m : Nat} {l : Addr} {xs : List α} (hx : env[i]? = some (.val V inferInstance (V.ref l))) (ho : os[m]? = some (l, Own.lst K xs)) : Ev (tCB (fun xs H Q => ∃ p ys, xs = [V.ref p] ∧ ((SqL K H p ys ∧ ∀ l, H l = none → Q (.ref l) (upd H l (.tup ys))) ∨ (SqT K H p ys ∧ Q (.ref p) H))) (tCons (tVar i) tNil)) env os (Tup.mk xs) := fun {b g h σ Q} s q =>
  ev_var hx s fun v g1 h1 l1 r1 => by
    cases r1
    obtain ⟨vs, e, p⟩ := own_seq (s.le l1) ho
    exact ⟨l, vs, rfl, .inl ⟨SqL.of e, fun t ht => q _ (upd g1 t (.tup vs)) _ (l1.trans (Le.laid l1.gh ht)) ⟨t, vs, rfl, .inl (.inl upd_same), pr_mono (Le.laid l1.gh ht).gg p⟩⟩⟩
theorem ixN_eq {n : Nat} {k : Int} (h0 : 0 ≤ k) (h1 : k < n) : ixN n k = some k.toNat := by unfold ixN; rw [if_pos h0, if_pos h1]
/-- x[k] = e on an owned list -/
theorem st_setO {m : Nat} {l : Addr} {xs : List α} {x : α} {n : Int} (s : S0 b g h σ env os) (e : Ev te env os x) (hx : env[i]? = some (.val V inferInstance (V.ref l))) (ho : os[m]? = some (l, Own.lst K xs)) (hb : Ev tb env os n) (h0 : 0 ≤ n) (h1 : n < xs.length)
    (k : ∀ g' h', S0 b g' h' σ env (os.set m (l, Own.lst K (xs.set n.toNat x))) → D.nx σ h') : tAsg te (gSub (tVar i) tb rSetL) D σ h :=
  e s fun v g1 h1' l1 r1 => ev_var hx (s.le l1) fun w g2 h2 l2 r2 => hb ((s.le l1).le l2) fun u g3 h3 l3 r3 => by
    cases r2
    have s3 := ((s.le l1).le l2).le l3
    obtain ⟨vs, e', p⟩ := own_seq s3 ho
    exact ⟨l, vs, n, n.toNat, rfl, r3, e', ixN_eq h0 (by rw [p.length]; exact h1), k g3 _ (s3.put (w' := Own.lst K (xs.set n.toNat x)) ho ⟨_, rfl, paired_set (iα.mono (l2.gg.trans l3.gg) r1) _ p⟩)⟩

/-- the list that a name owns is changed no more: it becomes a value -/
theorem S0.freeze {m : Nat} {l : Addr} {xs : List α} (s : S0 b g h σ env os) (hx : env[i]? = some (.val V inferInstance (V.ref l))) (ho : os[m]? = some (l, Own.lst K xs)) (hb : b.ls = []) : ∃ g', S0 b g' h σ (env.set i (sv xs)) (os.eraseIdx m) := by
  obtain ⟨n1, o, e1, vs, rfl, p1⟩ := s.own _ (List.mem_of_getElem? ho)
  have hm := List.mem_of_getElem? ho
  have nb : b.h l = none := by
    rcases s.ol _ hm with z | z
    · exact z
    · rw [hb] at z; cases z
  have lg : Same g (upd g l (.lst vs)) := fun c u q => by rw [upd_ne (ne_of_none q n1)]; exact q
  have nin : ∀ p ∈ os.eraseIdx m, p ∈ os ∧ p.1 ≠ l := fun p hp => by
    obtain ⟨j, hj, hjm⟩ := List.mem_eraseIdx_iff_getElem?.mp hp
    refine ⟨List.mem_of_getElem? hjm, fun z => ?_⟩
    have a1 : (os.map (·.1))[j]? = some l := by rw [List.getElem?_map, hjm]; exact congrArg some z
    have a2 : (os.map (·.1))[m]? = some l := by rw [List.getElem?_map, ho]; rfl
    exact hj ((List.getElem?_inj (by rw [List.length_map]; exact (List.getElem?_eq_some_iff.mp hjm).1) s.nd).mp (a1.trans a2.symm))
  refine ⟨upd g l (.lst vs), fun c u q => ?_, by rw [List.length_set]; exact s.len, fun n t e => ?_, fun p hp => ?_, ?_, s.gg.trans lg, s.fr, s.th, fun a n m => ?_, fun p hp => s.ol p (nin p hp).1⟩
  · by_cases hc : c = l
    · subst hc; rw [upd_same] at q; cases q; exact e1
    · rw [upd_ne hc] at q; exact s.gh _ _ q
  · by_cases hn : i = n
    · subst hn
      have hl : i < env.length := (List.getElem?_eq_some_iff.mp hx).1
      rw [List.getElem?_set_self hl] at e
      cases e
      obtain ⟨v, q1, q2⟩ := s.sl i _ hx
      cases q2
      exact ⟨_, q1, l, vs, rfl, .inl (.inl upd_same), pr_mono lg p1⟩
    · rw [List.getElem?_set_ne hn] at e
      exact Slot.ok_mono lg (s.sl n t e)
  · obtain ⟨hp1, hp2⟩ := nin p hp
    obtain ⟨n2, o2, e2, q2⟩ := s.own p hp1
    exact ⟨by rw [upd_ne hp2]; exact n2, o2, e2, p.2.mono lg q2⟩
  · have : ((os.eraseIdx m).map (·.1)).Sublist (os.map (·.1)) := (List.eraseIdx_sublist os m).map _
    exact this.nodup s.nd
  · rw [upd_ne (fun z => by rw [z, nb] at m; exact m rfl)]
    exact s.new a n m
end
end Lw
/-! Comprehensions; the promises of defs; calls. -/
namespace Lw
open PySem PySem.Spec PyProof.Rows L2
section
variable {K : PySem.W.Frag} {env : Env K} {os : Os} {ta tb te tx tl : TE} {t u tt : TT} {α β γ : Type} [iα : Py K α] [iβ : Py K β] [iγ : Py K γ]
variable {b : Bs} {g h : Hp} {σ : L2.St} {D : Ends} {t1 t2 : TS} {i j : Nat}

/-! ### comprehensions -/
theorem et_yes : EvT tYes env os true := fun {b g h σ Q} s q => q g h (Le.refl s.gh)
abbrev wiped (env : Env K) (vs : List Nat) : Env K := vs.foldr (fun v e => List.set e v Slot.unk) env
theorem S0.wipe {vs : List Nat} (s : S0 b g h σ env os) : S0 b g h (L2.wipe σ vs) (wiped env vs) os := by
  induction vs with
  | nil => exact s
  | cons v vs ih =>
    show S0 b g h ((L2.wipe σ vs).set v none) ((wiped env vs).set v Slot.unk) os
    refine { ih with len := by rw [List.length_set, List.length_set]; exact ih.len, sl := fun n t e => ?_ }
    by_cases hn : v = n
    · subst hn
      have hl : v < (wiped env vs).length := by
        have := (List.getElem?_eq_some_iff.mp e).1
        rwa [List.length_set] at this
      rw [List.getElem?_set_self hl] at e
      cases e
      trivial
    · rw [List.getElem?_set_ne hn] at e ⊢
      exact ih.sl n t e
theorem S0.drop {os' : Os} (s : S0 b g h σ env (os ++ os')) : S0 b g h σ env os :=
  { s with
    own := fun p hp => s.own p (List.mem_append_left _ hp)
    nd := by have := s.nd; rw [List.map_append] at this; exact (List.nodup_append.mp this).1
    ol := fun p hp => s.ol p (List.mem_append_left _ hp) }
/-- what a comprehension's block keeps: the new list D holds the items made so far -/
structure LcI (K : PySem.W.Frag) {β : Type} [iβ : Py K β] (env : Env K) (os : Os) (b : Bs) (ga ha : Hp) (σ : L2.St) (vs : List Nat) (D : Addr) (acc : List β) (H : Hp) : Prop where
  ex : ∃ g', S0 b g' H (L2.wipe σ vs) (wiped env vs) (os ++ [(D, Own.lst K acc)]) ∧ Same ga g' ∧ (∀ a, ga a = none → ha a ≠ none → g' a = none)
  hh : ∀ a o, ha a = some o → H a = some o
  dn : ha D = none
theorem LcI.start {ga ha : Hp} {Dd : Addr} (s : S0 b ga ha σ env os) (hd : ha Dd = none) (vs : List Nat) : LcI K (β := β) env os b ga ha σ vs Dd [] (upd ha Dd (.lst [])) where
  ex := ⟨ga, (s.wipe.add (w := Own.lst K ([] : List β)) hd ⟨[], rfl, .nil⟩), Same.refl _, fun _ n _ => n⟩
  hh := fun a o q => by rw [upd_ne (ne_of_none q hd)]; exact q
  dn := hd
theorem last_at {p : Addr × Own} : (os ++ [p])[os.length]? = some p := by simp
theorem last_set {p q : Addr × Own} : (os ++ [p]).set os.length q = os ++ [q] := by simp
/-- the end: all but D's own list is as a pure step leaves it -/
theorem LcI.done {ga ha H : Hp} {vs : List Nat} {Dd : Addr} {acc : List β} {Q : VK} (I : LcI K env os b ga ha σ vs Dd acc H) (q : ∀ l ws g' h', Le ga ha g' h' → h' l = none → Paired (iβ.R g') ws acc → Q (.ref l) (upd h' l (.lst ws))) : Q (.ref Dd) H := by
  obtain ⟨g', s, e1, e2⟩ := I.ex
  obtain ⟨nD, o, eD, ws, rfl, p⟩ := s.own (Dd, Own.lst K acc) (by simp)
  have hH : H = upd (fun a => if a = Dd then none else H a) Dd (.lst ws) := by
    funext a
    by_cases ha' : a = Dd
    · subst ha'; rw [upd_same]; exact eD
    · rw [upd_ne ha']; exact (if_neg ha').symm
  rw [hH]
  refine q Dd ws g' _ ⟨e1, fun a o z => ?_, fun a o z => ?_, e2⟩ (if_pos rfl) p
  · have : a ≠ Dd := ne_of_none z I.dn
    show (if a = Dd then none else H a) = some o
    rw [if_neg this]; exact I.hh a o z
  · have : a ≠ Dd := fun w => by rw [w, show g' Dd = none from nD] at z; cases z
    show (if a = Dd then none else H a) = some o
    rw [if_neg this]; exact s.gh a o z
/-- one turn -/
theorem LcI.turn {ga ha H : Hp} {vs : List Nat} {Dd : Addr} {acc : List β} {gt : TG} {f : Env K → α → Env K} {v : V} {x : α} {c : Bool} {y : β} {Nx : Hp → Prop} (I : LcI K env os b ga ha σ vs Dd acc H) (hg : TgtF (K := K) gt vs f)
    (rx : ∀ g', Same ga g' → iα.R g' v x) (ht : EvT tt (f (wiped env vs) x) os c) (he : c = true → Ev te (f (wiped env vs) x) os y) (hl : acc.length < sizeLine) (hw : L2.wipe (L2.wipe σ vs) vs = L2.wipe σ vs)
    (hN : ∀ H', LcI K env os b ga ha σ vs Dd (if c = true then acc ++ [y] else acc) H' → Nx H') :
    gt v (L2.wipe σ vs) H fun σ2 H2 => L2.wipe σ2 vs = L2.wipe σ vs ∧ tt σ2 H2 fun b H3 => if b = true then te σ2 H3 fun y H4 => ∃ acc, H4 Dd = some (.lst acc) ∧ acc.length < sizeLine ∧ Nx (upd H4 Dd (.lst (acc ++ [y]))) else Nx H3 := by
  obtain ⟨g', s, e1, e2⟩ := I.ex
  refine hg s.drop (rx g' e1) fun σ2 w2 s2 => ⟨w2.trans hw, ht s2 fun g3 h3 l3 => ?_⟩
  have hh3 : ∀ a o, ha a = some o → h3 a = some o := fun a o z => l3.hh a o (I.hh a o z)
  have new3 : ∀ a, ga a = none → ha a ≠ none → g3 a = none := fun a n m => l3.new a (e2 a n m) (sameNe I.hh m)
  cases c with
  | false => exact hN h3 ⟨⟨g3, s.le l3, e1.trans l3.gg, new3⟩, hh3, I.dn⟩
  | true =>
    refine he rfl (s2.le l3) fun w g4 h4 l4 r4 => ?_
    have s4 := (s.le l3).le l4
    obtain ⟨nD, o, eD, ws, rfl, p⟩ := s4.own (Dd, Own.lst K acc) (by simp)
    refine ⟨ws, eD, by rw [p.length]; exact hl, hN _ ⟨⟨g4, ?_, (e1.trans l3.gg).trans l4.gg, fun a n m => l4.new a (new3 a n m) (sameNe hh3 m)⟩, fun a o z => ?_, I.dn⟩⟩
    · have := s4.put (w' := Own.lst K (acc ++ [y])) (o := .lst (ws ++ [w])) last_at ⟨_, rfl, paired_append p (.cons r4 .nil)⟩
      rw [last_set] at this
      exact this
    · rw [upd_ne (ne_of_none z I.dn)]; exact l4.hh a o (hh3 a o z)
theorem filter_take {p : α → Bool} {f : α → β} {xs : List α} {n : Nat} {x : α} (h : xs[n]? = some x) : ((xs.take (n + 1)).filter p).map f = if p x = true then ((xs.take n).filter p).map f ++ [f x] else ((xs.take n).filter p).map f := by
  rw [List.take_add_one, h, List.filter_append, List.map_append]
  cases hp : p x <;> simp [hp]
theorem wipe_wipe {vs : List Nat} : L2.wipe (L2.wipe σ vs) vs = L2.wipe σ vs := by
  have key : ∀ (ws : List Nat) (τ : L2.St), (∀ v ∈ ws, τ.set v none = τ) → L2.wipe τ ws = τ := by
    intro ws
    induction ws with
    | nil => intro τ _; rfl
    | cons w ws ih =>
      intro τ hτ
      show (L2.wipe τ ws).set w none = τ
      rw [ih τ fun v hv => hτ v (List.mem_cons_of_mem _ hv)]
      exact hτ w List.mem_cons_self
  refine key vs _ fun v hv => ?_
  induction vs with
  | nil => cases hv
  | cons w ws ih =>
    show ((L2.wipe σ ws).set w none).set v none = (L2.wipe σ ws).set w none
    by_cases hvw : v = w
    · subst hvw; rw [List.set_set]
    · rw [List.set_comm none none (Ne.symm hvw), ih ((List.mem_cons.mp hv).resolve_left hvw)]
/-- [e for target in a list of xs if ..] -/
theorem en_lcL {xs : List α} {vs : List Nat} {gt : TG} {f : Env K → α → Env K} {p : α → Bool} {m : α → β} (hg : TgtF (K := K) gt vs f) (hx : Ev tl env os xs) (ht : ∀ x ∈ xs, EvT tt (f (wiped env vs) x) os (p x))
    (he : ∀ x ∈ xs, p x = true → Ev te (f (wiped env vs) x) os (m x)) (hl : xs.length ≤ 1000000) : EvN (tLc (iList K tl) gt tt te vs) env os ((xs.filter p).map m) := fun {b g h σ Q} s q => by
  refine hx s fun v g1 h1 l1 r1 => ?_
  obtain ⟨a, us, rfl, hq, hp⟩ := r1
  refine ⟨a, rfl, ⟨us, l1.gh.seq hq⟩, fun Dd hD => lc_list (K := K) (a := a) (xs := us) (fun n H => LcI K env os b g1 h1 σ vs Dd (((xs.take n).filter p).map m) H) (LcI.start (s.le l1) hD vs) (fun n H _ I => ?_) (fun n x H hn I => ?_) (fun H I => ?_)⟩
  · obtain ⟨g', s', e1, _⟩ := I.ex
    exact (e1.trans s'.gh).seq hq
  · obtain ⟨y, hy, ry⟩ := paired_getL hp hn
    have hm := List.mem_of_getElem? hy
    refine I.turn hg (fun g' e => iα.mono e ry) (ht y hm) (he y hm) ?_ wipe_wipe fun H' I' => by rw [filter_take hy]; exact I'
    refine Nat.lt_of_le_of_lt (Nat.le_trans (by rw [List.length_map]; exact List.length_filter_le _ _) (List.length_take_le _ _)) ?_
    exact Nat.lt_of_le_of_lt (by
      have := (List.getElem?_eq_some_iff.mp hy).1
      omega) (by decide : 1000000 < sizeLine)
  · rw [hp.length, List.take_length] at I
    exact I.done fun l ws g' h' le hn' pr => q l ws g' h' (l1.trans le) hn' pr
theorem en_lcT {xs : Tup α} {vs : List Nat} {gt : TG} {f : Env K → α → Env K} {p : α → Bool} {m : α → β} (hg : TgtF (K := K) gt vs f) (hx : Ev tl env os xs) (ht : ∀ x ∈ xs.l, EvT tt (f (wiped env vs) x) os (p x))
    (he : ∀ x ∈ xs.l, p x = true → Ev te (f (wiped env vs) x) os (m x)) (hl : xs.l.length ≤ 1000000) : EvN (tLc (iTup K tl) gt tt te vs) env os ((xs.l.filter p).map m) := fun {b g h σ Q} s q => by
  refine hx s fun v g1 h1 l1 r1 => ?_
  obtain ⟨a, us, rfl, hq, hp⟩ := r1
  refine ⟨a, rfl, ⟨us, same_seqT l1.gh hq⟩, fun Dd hD => lc_tup (K := K) (a := a) (xs := us) (fun n H => LcI K env os b g1 h1 σ vs Dd (((xs.l.take n).filter p).map m) H) (LcI.start (s.le l1) hD vs) (fun n H _ I => ?_) (fun n x H hn I => ?_) (fun H I => ?_)⟩
  · obtain ⟨g', s', e1, _⟩ := I.ex
    exact same_seqT (e1.trans s'.gh) hq
  · obtain ⟨y, hy, ry⟩ := paired_getL hp hn
    have hm := List.mem_of_getElem? hy
    refine I.turn hg (fun g' e => iα.mono e ry) (ht y hm) (he y hm) ?_ wipe_wipe fun H' I' => by rw [filter_take hy]; exact I'
    refine Nat.lt_of_le_of_lt (Nat.le_trans (by rw [List.length_map]; exact List.length_filter_le _ _) (List.length_take_le _ _)) ?_
    exact Nat.lt_of_le_of_lt (by
      have := (List.getElem?_eq_some_iff.mp hy).1
      omega) (by decide : 1000000 < sizeLine)
  · rw [hp.length, List.take_length] at I
    exact I.done fun l ws g' h' le hn' pr => q l ws g' h' (l1.trans le) hn' pr
/-- the upto from 0 to n - 1 -/
def upto (n : Nat) : List Int := (List.range n).map fun (k : Nat) => (k : Int)
theorem upto_get {n k : Nat} (h : k < n) : (upto n)[k]? = some (k : Int) := by unfold upto; rw [List.getElem?_map, List.getElem?_range h]; rfl
theorem upto_len {n : Nat} : (upto n).length = n := by unfold upto; simp
theorem mem_upto {n : Nat} {x : Int} : x ∈ upto n ↔ 0 ≤ x ∧ x < n := by
  unfold upto
  rw [List.mem_map]
  constructor
  · rintro ⟨k, hk, rfl⟩
    rw [List.mem_range] at hk
    omega
  · intro ⟨h1, h2⟩
    exact ⟨x.toNat, by rw [List.mem_range]; omega, by omega⟩
/-- [e for k in range(n) if ..] -/
theorem en_lcR {n : Int} {p : Int → Bool} {m : Int → β} (hx : Ev tl env os n) (ht : ∀ x ∈ upto n.toNat, EvT tt ((wiped env [i]).set i (sv x)) os (p x))
    (he : ∀ x ∈ upto n.toNat, p x = true → Ev te ((wiped env [i]).set i (sv x)) os (m x)) (hl : n ≤ 1000000) (hl0 : -(2 ^ 62) ≤ n) : EvN (tLc (iRng1 (tCons tl tNil)) (gName i) tt te [i]) env os (((upto n.toNat).filter p).map m) := fun {b g h σ Q} s q => by
  refine hx s fun v g1 h1 l1 r1 => ?_
  cases r1
  refine ⟨n, rfl, hl0, by omega, fun Dd hD => lc_range (lo := 0) (n := n.toNat) (fun k H => LcI K env os b g1 h1 σ [i] Dd ((((upto n.toNat).take k).filter p).map m) H) (LcI.start (s.le l1) hD [i]) (fun k H hk I => ?_) (fun H I => ?_)⟩
  · have hy := upto_get hk
    have hm := List.mem_of_getElem? hy
    refine I.turn (tgt_name (α := Int)) (fun g' e => ?_) (ht _ hm) (he _ hm) ?_ wipe_wipe fun H' I' => by rw [filter_take hy]; exact I'
    · show V.int (0 + (k : Int)) = V.int (k : Int)
      rw [Int.zero_add]
    · refine Nat.lt_of_le_of_lt (Nat.le_trans (by rw [List.length_map]; exact List.length_filter_le _ _) (List.length_take_le _ _)) ?_
      exact Nat.lt_of_le_of_lt (by omega) (by decide : 1000000 < sizeLine)
  · rw [List.take_of_length_le (by rw [upto_len]; exact Nat.le_refl _)] at I
    exact I.done fun l ws g' h' le hn' pr => q l ws g' h' (l1.trans le) hn' pr
/-- a new list, taken as a value that does not change -/
theorem EvN.ev {xs : List α} (h : EvN te env os xs) : Ev te env os xs := fun {b g h' σ Q} s q => h s fun l vs g1 h1 l1 hl p =>
  q _ (upd g1 l (.lst vs)) _ (l1.trans (Le.laid l1.gh hl)) ⟨l, vs, rfl, .inl (.inl upd_same), pr_mono (Le.laid l1.gh hl).gg p⟩
theorem filter_true {xs : List α} {m : α → β} : (xs.filter fun _ => true).map m = xs.map m := by rw [List.filter_eq_self.mpr (fun _ _ => rfl)]
/-- without a test -/
theorem EvN.all {xs : List α} {m : α → β} (h : EvN te env os ((xs.filter fun _ => true).map m)) : EvN te env os (xs.map m) := by rw [filter_true] at h; exact h

/-! ### promises -/
/-- a def that changes nothing: A says which arguments it takes and what is wanted of the answer -/
def SpR (K : PySem.W.Frag) {γ : Type} [iγ : Py K γ] (A : List (Slot K) → (γ → Prop) → Prop) : Sp := fun vs H Q _ =>
  ∃ (g : Hp) (xs : List (Slot K)) (P : γ → Prop), A xs P ∧ Same g H ∧ Args g vs xs ∧ ∀ v z g' H', P z → Le g H g' H' → iγ.R g' v z → Q v H'
theorem args_len {g : Hp} {vs : List V} {xs : List (Slot K)} (h : Args g vs xs) : vs.length = xs.length := by
  induction h with
  | nil => rfl
  | cons _ _ ih => rw [List.length_cons, List.length_cons, ih]
theorem args_append {g : Hp} {vs ws : List V} {xs ys : List (Slot K)} (h : Args g vs xs) (k : Args g ws ys) : Args g (vs ++ ws) (xs ++ ys) := by
  induction h with
  | nil => exact k
  | cons r _ ih => exact .cons r ih
theorem args_get {g : Hp} {vs : List V} {xs : List (Slot K)} (h : Args g vs xs) : ∀ {n : Nat} {t : Slot K}, xs[n]? = some t → t.ok g (vs[n]?) := by
  induction h with
  | nil => intro n t e; simp at e
  | cons r _ ih =>
    intro n t e
    cases n with
    | zero => simp at e; subst e; exact r
    | succ n => exact ih (by simpa using e)
theorem S0.start {N : List Str} {vs : List V} {xs : List (Slot K)} {H : Hp} (gh : Same g H) (r : Args g vs xs) : S0 ⟨[], g, H⟩ g H (L2.start N vs) (xs ++ List.replicate (N.length - xs.length) .unk) [] where
  gh := gh
  len := by unfold L2.start; rw [List.length_append, List.length_append, List.length_map, List.length_replicate, List.length_replicate, args_len r]
  sl := fun n t e => by
    by_cases hn : n < xs.length
    · rw [List.getElem?_append_left hn] at e
      have q := args_get r e
      have : (L2.start N vs)[n]?.join = vs[n]? := by
        unfold L2.start
        rw [List.getElem?_append_left (by rw [List.length_map, args_len r]; exact hn), List.getElem?_map]
        cases vs[n]? <;> rfl
      rw [this]
      exact q
    · rw [List.getElem?_append_right (by omega)] at e
      have := List.mem_of_getElem? e
      rw [List.mem_replicate] at this
      rw [this.2]
      trivial
  own := fun p hp => by cases hp
  nd := by simp
  gg := Same.refl _
  fr := fun a o _ q => q
  th := fun a n => n
  new := fun a n _ => n
  ol := fun p hp => by cases hp
/-- a call -/
theorem ev_call {A : List (Slot K) → (γ → Prop) → Prop} {xs ds : List (Slot K)} {dvs : List V} {z : γ} {E : XK} {ta : TA} (h : EvA ta env os xs) (hA : A (xs ++ ds) (fun y => y = z)) (hd : ∀ g, Args g dvs ds := by exact fun _ => .nil) : Ev (tCall (SpR K A) dvs E ta) env os z := fun {b g h' σ Q} s q =>
  h s fun vs g1 h1 l1 r1 => ⟨g1, xs ++ ds, _, hA, l1.gh, args_append r1 (hd g1), fun v z' g2 h2 hz l2 r2 => q v g2 h2 (l1.trans l2) (hz ▸ r2)⟩
/-- .. whose answer is known in part -/
theorem s_call {A : List (Slot K) → (γ → Prop) → Prop} {xs ds : List (Slot K)} {dvs : List V} {P : γ → Prop} {E : XK} {ta : TA} {Q : VK} (s : S0 b g h σ env os) (e : EvA ta env os xs) (hA : A (xs ++ ds) P) (k : ∀ v z g' h', P z → S0 b g' h' σ env os → Same g g' → iγ.R g' v z → Q v h')
    (hd : ∀ g, Args g dvs ds := by exact fun _ => .nil) : tCall (SpR K A) dvs E ta σ h Q :=
  e s fun vs g1 h1 l1 r1 => ⟨g1, xs ++ ds, P, hA, l1.gh, args_append r1 (hd g1), fun v z g2 h2 hz l2 r2 => k v z g2 h2 hz ((s.le l1).le l2) (l1.gg.trans l2.gg) r2⟩
theorem SpR.imp {A B : List (Slot K) → (γ → Prop) → Prop} (h : ∀ xs P, B xs P → A xs P) (vs : List V) (H : Hp) (Q : VK) (E : XK) (q : SpR K B vs H Q E) : SpR K A vs H Q E :=
  let ⟨g, xs, P, a, r⟩ := q
  ⟨g, xs, P, h xs P a, r⟩
end
section
variable {P : Program} {w : World} {K : PySem.W.Frag} {mg : Str → Option Value} {base : Heap} {γ : Type} [iγ : Py K γ]
/-- a def that changes nothing keeps its promise -/
theorem okR {x qual : Str} {st : Stmt} {f : Addr} {fd : FuncData} {N ps : List Str} {k : Nat} {A : List (Slot K) → (γ → Prop) → Prop} (F : Fun K x qual st f fd) (S : FnScope N ps (defScope st)) (hlen : ∀ xs P', A xs P' → xs.length = ps.length)
    (hb : ∀ (cdv : Value) (Ar : Around) (outer : List PySem.Env) (s : Shared) (H : Hp) (E : XK), Room k (Ar.deeper (envOfC qual (defScope st) s.heap.objs.size f cdv)) → ∀ (xs : List (Slot K)) (P' : γ → Prop), A xs P' →
      ∃ t, PSs (cxOf CX0 P w K mg base N qual (defScope st) f cdv Ar outer s H E).nox (defBody st) t ∧
        ∀ (g : Hp) (σ : L2.St) (Q : VK), S0 ⟨[], g, H⟩ g H σ (xs ++ List.replicate (N.length - xs.length) .unk) [] →
          (∀ v z g' h' σ' env' os', P' z → S0 ⟨[], g, H⟩ g' h' σ' (env' : Env K) os' → iγ.R g' v z → Q v h') → t { nx := fun _ H' => Q .non H', rt := Q } σ H) : FnOk P w K mg base CX0 (k + 1) f fd ps (SpR K A) := by
  refine F.ok S (fun vs H Q E h => ?_) (fun cdv Ar outer s H vs Q E hr h => ?_)
  · obtain ⟨g, xs, P', hA, _, r, _⟩ := h
    rw [args_len r]
    exact hlen xs P' hA
  · obtain ⟨g, xs, P', hA, gh, r, q⟩ := h
    obtain ⟨t, ht, hq⟩ := hb cdv Ar outer s H E hr xs P' hA
    exact ⟨t, ht, hq g _ Q (S0.start gh r) fun v z g' h' σ' env' os' hz s' rz => q v z g' h' hz (s'.fin rfl) rz⟩
end
end Lw
/-! Rules that the modules lack: tuple * int with any small count, math.factorial, o[i] read for an augmented store. -/
namespace Lw
open PySem PySem.Spec PyProof.Rows L2
theorem tm_one (l : Addr) (items : Array Value) (n : Nat) (dd : Option Addr) (sl : Array (Option Value)) (u : Tok) :
    Meets (Builtin.«tuple.__mul__» ⟨[.ref l, .int 1 u], []⟩) (fun _ R s => s.heap.get? l = some { cls := .type "tuple", dict := dd, data := .seq items n, slots := sl } ∧ R (.ok (.ret (Value.ref l))) s) :=
  .of_wp fun prog w A R s h => by
    obtain ⟨hp, g, d, tk, os⟩ := s
    obtain ⟨hl, h⟩ := h
    have f1 := AutoSeq1.idx_int
    have c0 : (decide ((1 : Int) < -(2 ^ 63)) || decide ((1 : Int) ≥ 2 ^ 63)) = false := by decide
    have c1 : (items.isEmpty || (1 : Int) == 1) = true := by simp
    wp_walk using wpAny_loadPart' hl
    repeat (first
      | (refine wpAny_ite_false (decide_eq_false (by rw [c0]; exact Bool.false_ne_true)) ?_; wp_walk using wpAny_loadPart' hl)
      | (refine wpAny_ite_true (decide_eq_true (by rw [c1])) ?_; wp_walk using wpAny_loadPart' hl))
    exact ⟨_, rfl, h⟩
theorem tm_zero (l : Addr) (items : Array Value) (n : Nat) (dd : Option Addr) (sl : Array (Option Value)) (x : Int) (u : Tok) (c0 : (decide (x < -(2 ^ 63)) || decide (x ≥ 2 ^ 63)) = false) (c1 : (items.isEmpty || x == 1) = false) (c2 : (decide (x ≤ 0) || items.isEmpty) = true) :
    Meets (Builtin.«tuple.__mul__» ⟨[.ref l, .int x u], []⟩) (fun _ R s => s.heap.get? l = some { cls := .type "tuple", dict := dd, data := .seq items n, slots := sl } ∧
      R (.ok (.ret (Value.ref s.heap.objs.size))) { s with heap := s.heap.push { cls := Value.type "tuple", data := Data.seq #[] }, toks := s.toks }) :=
  .of_wp fun prog w A R s h => by
    obtain ⟨hp, g, d, tk, os⟩ := s
    obtain ⟨hl, h⟩ := h
    have f1 := AutoSeq1.idx_int
    wp_walk using wpAny_loadPart' hl
    repeat (first
      | (refine wpAny_ite_false (decide_eq_false (by rw [c0]; exact Bool.false_ne_true)) ?_; wp_walk using wpAny_loadPart' hl)
      | (refine wpAny_ite_false (decide_eq_false (by rw [c1]; exact Bool.false_ne_true)) ?_; wp_walk using wpAny_loadPart' hl)
      | (refine wpAny_ite_true (decide_eq_true (by rw [c2])) ?_; wp_walk using wpAny_loadPart' hl))
    exact ⟨_, rfl, h⟩
section
variable {X : Cx}
/-- t * k, k any small number -/
def rRepA (K : PySem.W.Frag) : R2 := fun x y H Q => ∃ l k xs, x = .ref l ∧ y = .int k ∧ SqT K H l xs ∧ xs ≠ [] ∧ -1000 ≤ k ∧ k ≤ 1000 ∧ xs.length ≤ 1000 ∧ (k = 1 → Q (.ref l) H) ∧ (k ≠ 1 → ∀ p, H p = none → Q (.ref p) (upd H p (.tup (List.replicate k.toNat xs).flatten)))
theorem op_repTA : OpR X (binaryOp .Mult) (rRepA X.K) := by
  intro pins s σ H x y v u Q I rx ry h
  obtain ⟨l, k, xs, rfl, rfl, hT, hne, h1, h2, hz, q1, q⟩ := h
  by_cases hk : 2 ≤ k
  · exact op_repT pins s σ H _ _ v u Q I rx ry ⟨l, k, xs, rfl, rfl, hT, hne, hk, h2, hz, q (by omega)⟩
  · cases rx
    obtain ⟨t, rfl⟩ := ry
    obtain ⟨its, r, ⟨⟨cls, dd, data, sl⟩, ho, hc, n, hd⟩, hs⟩ := I.tuple hT
    simp only at hc hd
    subst hc hd
    have hn : its.toArray.isEmpty = false := by
      cases r with
      | nil => exact absurd rfl hne
      | cons a b => rfl
    by_cases hk1 : k = 1
    · subst hk1
      exact wpAny_binaryOp_repeat_ref (T := "tuple") (U := "int") (by decide) ⟨_, ho, rfl⟩ (fun s' => typeIs_int s' 1 t) noFill_tuple_mul F.fills_int_mul F.slot_int_rmul repeat_tuple F.slot_int_index.lookup
        (call_meets F.slot_int_rmul (typeIs_int s 1 t) F.entry_int_rmul (F.args_int_rmul_2 _ _) (int_rmul_tuple 1 t l its.toArray n dd sl)
          ⟨ho, rfl, ⟨_, ho, rfl⟩, call_meets F.slot_tuple_mul ⟨_, ho, rfl⟩ F.entry_tuple_mul (F.args_tuple_mul_2 _ _) (tm_one l its.toArray n dd sl t) ⟨ho, ⟨.ref l, H, I, rfl, q1 rfl⟩⟩⟩)
    · have c0 : (decide (k < -(2 ^ 63)) || decide (k ≥ 2 ^ 63)) = false := by
        rw [decide_eq_false (by omega), decide_eq_false (by omega)] <;> rfl
      have c1 : (its.toArray.isEmpty || k == 1) = false := by
        rw [hn, Bool.false_or]
        exact beq_eq_false_iff_ne.mpr hk1
      have c2 : (decide (k ≤ 0) || its.toArray.isEmpty) = true := by
        rw [decide_eq_true (by omega : k ≤ 0)] <;> rfl
      refine wpAny_binaryOp_repeat_ref (T := "tuple") (U := "int") (by decide) ⟨_, ho, rfl⟩ (fun s' => typeIs_int s' k t) noFill_tuple_mul F.fills_int_mul F.slot_int_rmul repeat_tuple F.slot_int_index.lookup
        (call_meets F.slot_int_rmul (typeIs_int s k t) F.entry_int_rmul (F.args_int_rmul_2 _ _) (int_rmul_tuple k t l its.toArray n dd sl)
          ⟨ho, rfl, ⟨_, ho, rfl⟩, call_meets F.slot_tuple_mul ⟨_, ho, rfl⟩ F.entry_tuple_mul (F.args_tuple_mul_2 _ _) (tm_zero l its.toArray n dd sl k t c0 c1 c2) ⟨ho, ?_⟩⟩)
      have e0 : k.toNat = 0 := by omega
      have q' := q hk1
      rw [e0] at q'
      exact ⟨.ref s.heap.objs.size, _, I.laid (t' := s.toks) (o := .tup []) (fun b ob q => Heap.get?_push_of_some _ q) (Nat.le_refl _) ⟨Nat.zero_le _, [], .nil, IsTup.new _ _⟩, rfl, q' _ (I.hok.fresh (Nat.le_refl _))⟩
/-- math.factorial of a small number -/
def rFact : List V → Hp → VK → Prop := fun vs H Q => ∃ a : Int, vs = [.int a] ∧ 0 ≤ a ∧ a ≤ 12 ∧ Q (.int ((Builtin.Math.factorialNat a.toNat : Nat) : Int)) H
theorem cr_factorial : CallR X (.builtin "math.factorial") rFact := by
  intro pins s σ H vs us Q I r h
  obtain ⟨a, rfl, h0, h1, q⟩ := h
  obtain ⟨u, rfl, rr⟩ := Vals.one r
  obtain ⟨t, rfl⟩ := rr
  have e1 : Builtin.Math.maxSsize = 2 ^ 63 - 1 := rfl
  have e2 : Builtin.Math.manyFactors = 20000 := rfl
  refine PySem.W.mg_factorial (by rw [e1]; omega) (by omega) (by rw [e2]; omega) ?_ ⟨.int _, H, I.tok _, ⟨_, rfl⟩, q⟩
  have hb : ∀ n : Nat, n ≤ 12 → (((Builtin.Math.factorialNat n : Nat) : Int)).natAbs.log2 < bitsLine := by
    intro n hn
    rw [Int.natAbs_natCast]
    have : Builtin.Math.factorialNat n ≤ 479001600 := by
      rcases n with _ | _ | _ | _ | _ | _ | _ | _ | _ | _ | _ | _ | _ | n <;> first | decide | omega
    refine Nat.lt_of_le_of_lt (m := 28) ?_ (by decide)
    by_cases h0 : Builtin.Math.factorialNat n = 0
    · rw [h0]; decide
    · have := (Nat.log2_lt h0).mpr (show Builtin.Math.factorialNat n < 2 ^ 29 by omega)
      omega
  exact hb _ (by omega)
theorem pget_list : PGet X (rIxL X.K) := by
  intro pins s σ H o i ov iv Q I ro ri h
  obtain ⟨p, xs, k, v, rfl, rfl, hq, he, q⟩ := h
  cases ro
  obtain ⟨t, rfl⟩ := ri
  obtain ⟨its, r, pl, hz⟩ := I.list hq
  obtain ⟨j, h1, h2, h3, h4, h5⟩ := atI_get he
  obtain ⟨w, ew, rw'⟩ := r.get h2
  have hl := r.length
  have hn := line63
  have fin : EP X pins σ Q w s := ⟨v, H, I, rw', q⟩
  by_cases h0 : 0 ≤ k
  · have hj : k.toNat = j := by
      rw [seqIndex_of h0 h5] at h1
      exact Option.some.inj h1
    exact wpAny_getItem_list pl.isList h0 (by omega) (by rw [hj]; simpa using ew) fin
  · have hj : (k + (its.toArray.size : Int)).toNat = j := by
      rw [seqIndex_neg (by omega) h4] at h1
      rw [List.size_toArray, ← hl]
      exact Option.some.inj h1
    exact wpAny_getItem_list_neg pl.isList (by omega) (by rw [List.size_toArray] <;> omega) (by omega) (by rw [hj]; simpa using ew) fin
end
section
variable {K : PySem.W.Frag} {env : Env K} {os : Os} {ta tb te : TE} {α : Type} [iα : Py K α]
theorem paired_rep {F : V → α → Prop} {vs : List V} {xs : List α} (r : Paired F vs xs) : ∀ k : Nat, Paired F (List.replicate k vs).flatten (List.replicate k xs).flatten
  | 0 => .nil
  | k + 1 => by
    rw [List.replicate_succ, List.replicate_succ, List.flatten_cons, List.flatten_cons]
    exact paired_append r (paired_rep r k)
theorem ev_repT {xs : Tup α} {k : Int} (ha : Ev ta env os xs) (hb : Ev tb env os k) (hx : xs.l ≠ [] ∧ xs.l.length ≤ 1000) (hk : -1000 ≤ k ∧ k ≤ 1000) : Ev (tOp (rRepA K) ta tb) env os (Tup.mk (List.replicate k.toNat xs.l).flatten) := fun {b g h' σ Q} s q =>
  ha s fun v g1 h1 l1 r1 => hb (s.le l1) fun w g2 h2 l2 r2 => by
    obtain ⟨a, vs, rfl, h3, h4⟩ := r1
    cases r2
    have h3' := same_seqT l2.gg h3
    have h4' := pr_mono l2.gg h4
    refine ⟨a, k, vs, rfl, rfl, same_seqT l2.gh h3', fun e => hx.1 ?_, hk.1, hk.2, by rw [h4.length]; exact hx.2, fun e => ?_, fun _ p hp => ?_⟩
    · have := h4.length
      rw [e] at this
      exact List.eq_nil_of_length_eq_zero this.symm
    · subst e
      refine q _ _ _ (l1.trans l2) ⟨a, vs, rfl, h3', ?_⟩
      show Paired _ vs (List.replicate 1 xs.l).flatten
      simpa using h4'
    · exact q _ (upd g2 p (.tup (List.replicate k.toNat vs).flatten)) _ ((l1.trans l2).trans (Le.laid l2.gh hp)) ⟨p, _, rfl, .inl (.inl upd_same), pr_mono (Le.laid l2.gh hp).gg (paired_rep h4' _)⟩
theorem ev_fact {x : Int} (ha : Ev ta env os x) (hx : 0 ≤ x ∧ x ≤ 12) : Ev (tCB rFact (tCons ta tNil)) env os ((Builtin.Math.factorialNat x.toNat : Nat) : Int) := ev_cb1 ha fun v g h e r Q q => by
  cases r
  exact ⟨x, rfl, hx.1, hx.2, q _ g h (Le.refl e) rfl⟩
variable {b : Bs} {g h : Hp} {σ : L2.St} {D : Ends} {i : Nat}
/-- x[k] += e on an owned list of ints -/
theorem st_augO {m : Nat} {l : Addr} {xs : List Int} {f : Int → Int → Int} {n x y : Int} (s : S0 b g h σ env os) (hx : env[i]? = some (.val V inferInstance (V.ref l))) (ho : os[m]? = some (l, Own.lst K xs)) (hb : Ev tb env os n) (h0 : 0 ≤ n) (h1 : n < xs.length) (hn : xs[n.toNat]? = some x) (e : Ev te env os y)
    (k : ∀ g' h', S0 b g' h' σ env (os.set m (l, Own.lst K (xs.set n.toNat (f x y)))) → D.nx σ h') : tAugS (tVar i) tb te (rIxL K) (ipI f) rSetL D σ h := by
  unfold tAugS
  refine ev_var hx s fun v g1 h1' l1 r1 => hb (s.le l1) fun w g2 h2 l2 r2 => ?_
  cases r1
  have s2 := (s.le l1).le l2
  obtain ⟨vs, e2, p2⟩ := own_seq s2 ho
  have hat : atI xs n = some x := by unfold atI; rw [ixN_eq h0 h1]; exact hn
  obtain ⟨z, ez, rz⟩ := atI_map p2 hat
  refine ⟨l, vs, n, z, rfl, r2, SqL.of e2, ez, e s2 fun w3 g3 h3 l3 r3 => ⟨x, y, rz, r3, ?_⟩⟩
  have s3 := s2.le l3
  obtain ⟨ws, e3, p3⟩ := own_seq s3 ho
  have rz3 : Py.R (K := K) g3 (V.int (f x y)) (f x y) := rfl
  exact ⟨l, ws, n, n.toNat, rfl, r2, e3, ixN_eq h0 (by rw [p3.length]; exact h1), k g3 _ (s3.put (w' := Own.lst K (xs.set n.toNat (f x y))) ho ⟨_, rfl, paired_set rz3 _ p3⟩)⟩
end
end Lw
/-! zip, several targets. -/
namespace Lw
open PySem PySem.Spec PyProof.Rows L2 RZ
section
variable {K : PySem.W.Frag} {env : Env K} {os : Os} {ta tb te : TE} {α β γ : Type} [iα : Py K α] [iβ : Py K β] [iγ : Py K γ]
variable {b : Bs} {g h : Hp} {σ : L2.St} {D : Ends} {i j : Nat}
theorem st_tgt {gt : TG} {ws : List Nat} {f : Env K → α → Env K} {x : α} (hg : TgtF (K := K) gt ws f) (s : S0 b g h σ env os) (e : Ev te env os x) (k : ∀ g' h' σ', S0 b g' h' σ' (f env x) os → D.nx σ' h') : tAsg te gt D σ h :=
  e s fun v g' h' l r => hg (s.le l) r fun σ2 _ s2 => k g' h' σ2 s2
theorem st_par {x : α} {y : β} (s : S0 b g h σ env os) (e1 : Ev ta env os x) (e2 : Ev tb env os y) (k : ∀ v w g' h', S0 b g' h' ((σ.set i (some v)).set j (some w)) ((env.set i (sv x)).set j (sv y)) os → D.nx ((σ.set i (some v)).set j (some w)) h') : tPar i j (tCons ta (tCons tb tNil)) D σ h :=
  e1 s fun v g1 h1 l1 r1 => e2 (s.le l1) fun w g2 h2 l2 r2 => ⟨v, w, rfl, k v w g2 h2 ((((s.le l1).le l2).set (t := sv x) ⟨v, rfl, iα.mono l2.gg r1⟩).set (t := sv y) ⟨w, rfl, r2⟩)⟩
theorem st_for_zipT {tbd : TS} {gt : TG} {ws : List Nat} {f : Env K → α × β → Env K} {xs : Tup α} {ys : Tup β} (hg : TgtF (K := K) gt ws f) (s : S0 b g h σ env os) (ea : Ev ta env os xs) (eb : Ev tb env os ys) (hl : xs.l.length = ys.l.length) (I : Nat → Env K → Os → Prop) (h0 : I 0 env os)
    (hs : ∀ n x y, xs.l[n]? = some x → ys.l[n]? = some y → Turn1 b D tbd I n (fun e => f e (x, y))) (hd : ∀ env' os' g' h' σ', I xs.l.length env' os' → S0 b g' h' σ' env' os' → D.nx σ' h') : tFor (iZipA K (tCons ta (tCons tb tNil))) gt tbd D σ h := by
  refine ea s fun v g1 h1 l1 r1 => eb (s.le l1) fun w g2 h2 l2 r2 => ?_
  obtain ⟨a, us, rfl, hq, hp⟩ := r1
  obtain ⟨a', ws', rfl, hq', hp'⟩ := r2
  have hq2 := same_seqT l2.gg hq
  have hp2 := pr_mono l2.gg hp
  refine ⟨a, a', us, ws', rfl, .inr ⟨same_seqT l2.gh hq2, same_seqT l2.gh hq', ?_⟩⟩
  refine for_zipT (K := K) (a := a) (b := a') (xs := us) (ys := ws') (by rw [hp.length, hp'.length]; exact hl) (fun n σ' h' => ∃ g' env' os', Same g2 g' ∧ I n env' os' ∧ S0 b g' h' σ' env' os') ⟨g2, env, os, Same.refl _, h0, (s.le l1).le l2⟩
    (fun n σ' h' ⟨g', _, _, e1, _, s'⟩ => ⟨same_seqT (e1.trans s'.gh) hq2, same_seqT (e1.trans s'.gh) hq'⟩) ?_ ?_
  · rintro n x y T σ' h' hx hy ⟨g', env', os', e1, hI, s'⟩ hT
    obtain ⟨x', hx', rx⟩ := paired_getL hp2 hx
    obtain ⟨y', hy', ry⟩ := paired_getL hp' hy
    have ld : Le g' h' (upd g' T (.tup [x, y])) (upd h' T (.tup [x, y])) := Le.laid s'.gh hT
    have rp : (instPair (K := K) (α := α) (β := β)).R (upd g' T (.tup [x, y])) (.ref T) (x', y') := ⟨T, x, y, rfl, .inl (.inl upd_same), iα.mono (e1.trans ld.gg) rx, iβ.mono (e1.trans ld.gg) ry⟩
    exact turn1_go hg (hs n x' y' hx' hy') hI (s'.le ld) rp fun env2 os2 g3 h3 σ2 e2 hI2 s2 => ⟨g3, env2, os2, (e1.trans ld.gg).trans e2, hI2, s2⟩
  · rintro σ' h' ⟨g', env', os', e1, hI, s'⟩
    rw [hp.length] at hI
    exact hd env' os' g' h' σ' hI s'
end
section
variable {X : Cx}
theorem sumT_raw {prog : Program} {w : World} {A : Around} {E : Value → Shared → Prop} {s : Shared} {l : Addr} {its : List Value} {ns : List Int} {Q : Value → Shared → Prop} (hh : A.handled = none) (hl : s.heap.IsTuple l its.toArray) (hi : IntsAre its ns)
    (h : ∀ h' tk t', (∀ b o, s.heap.get? b = some o → h'.get? b = some o) → Q (.int ns.sum t') { s with heap := h', toks := tk }) : wpAny (model prog w) A (call (.builtin "sum") [.ref l]) Q E s := by
  obtain ⟨xs, e⟩ := hi.allInts.items
  have hn : numsOf (intItems xs).toList = ns := by rw [← e]; exact hi.numsOf
  rw [nums_intItems] at hn
  rw [e] at hl
  refine PySem.W.ktm_sumG hh hl fun h' tk t' hk => ?_
  have := h h' tk t' hk
  rw [preSum_eq, List.take_of_length_le (by simp), hn]; exact this
def rSumT (K : PySem.W.Frag) : List V → Hp → VK → Prop := fun vs H Q => ∃ (a : Addr) (ns : List Int), vs = [V.ref a] ∧ SqT K H a (ns.map V.int) ∧ Q (.int ns.sum) H
theorem cr_sumT (hc : X.calm = true) : CallR X (.builtin "sum") (rSumT X.K) := by
  intro pins s σ H vs us Q I r h
  obtain ⟨a, ns, rfl, hs, q⟩ := h
  obtain rfl := Vals.ref1 r
  obtain ⟨its, rr, p, hz⟩ := I.tuple hs
  exact sumT_raw (I.ok.hd hc) p rr.ints fun h' tk t' k => ⟨.int ns.sum, H, I.kept k, ⟨_, rfl⟩, q⟩
end
section
variable {K : PySem.W.Frag} {env : Env K} {os : Os} {ta tb te : TE} {α : Type} [iα : Py K α]
theorem ev_sumT {xs : Tup Int} (ha : Ev ta env os xs) : Ev (tCB (rSumT K) (tCons ta tNil)) env os xs.l.sum := ev_cb1 ha fun v g h e r Q q => by
  obtain ⟨a, vs, rfl, h1, h2⟩ := r
  refine ⟨a, xs.l, rfl, ?_, q _ g h (Le.refl e) rfl⟩
  rw [← paired_eq h2]
  exact same_seqT e h1
/-- [..] * k -/
theorem en_repL {tl : TA} {xs : List α} {k : Int} (el : EvL tl env os xs) (hb : Ev tb env os k) (hx : xs.length ≤ 1000) (hk : 0 ≤ k ∧ k ≤ 1000) : EvN (tOp rRep (tLst tl) tb) env os (List.replicate k.toNat xs).flatten := fun {b g h σ Q} s q =>
  el s fun vs g1 h1 l1 r1 => ⟨by rw [r1.length]; exact Nat.le_trans hx (by decide), fun p hp => by
    have ld : Le g1 h1 (upd g1 p (.lst vs)) (upd h1 p (.lst vs)) := Le.laid l1.gh hp
    refine hb ((s.le l1).le ld) fun w g2 h2 l2 r2 => ?_
    cases r2
    refine ⟨p, k, vs, rfl, rfl, l2.hh _ _ upd_same, by omega, by omega, ?_, fun p' hp' => ?_⟩
    · have : vs.length * k.toNat ≤ 1000 * 1000 := Nat.mul_le_mul (by rw [r1.length]; exact hx) (by omega)
      exact Nat.le_trans this (by decide)
    · exact q p' (List.replicate k.toNat vs).flatten g2 h2 ((l1.trans ld).trans l2) hp' (pr_mono (ld.gg.trans l2.gg) (paired_rep r1 _))⟩
end
end Lw
/-! The text's facts behind its top; defs by their names. -/
namespace Lw
open PySem PySem.Spec PyProof.Rows L2
/-- what the head has told of the written part -/
structure Fx (fa : List He.Fa) (fn : List He.DefD) (ex : PySem.W.Frag → Bool) (K : PySem.W.Frag) (mg : Str → Option Value) : Prop where
  d : He.SaysD fa fn K
  more : ex K = true
  glo : ∀ x v, PySem.W.nsIn K mainGlobals x = some (some v) → mg x = some v
  gloN : ∀ x, PySem.W.nsIn K mainGlobals x = some none → mg x = none
theorem Fx.of {fa : List He.Fa} {fn : List He.DefD} {ex : PySem.W.Frag → Bool} {K : PySem.W.Frag} {mg : Str → Option Value} {w : World} {h h' : Heap} {ts : List He.Tab} {tf : List He.Defn} (X : K.In h) (G : h.Ns mainGlobals mg) (c : He.SaysX fa fn ts tf ex w h' K) : Fx fa fn ex K mg :=
  ⟨c.t.d, c.more, fun _ _ e => PySem.W.mg_of X G e, fun _ e => PySem.W.mg_none_of X G e⟩
/-- the def called x keeps the promise sp -/
def Cal (P : Program) (w : World) (K : PySem.W.Frag) (mg : Str → Option Value) (base : Heap) (x : Str) (k : Nat) (ps : List Str) (sp : Sp) : Prop :=
  ∃ f fd, mg x = some (.ref f) ∧ PySem.W.keepIn K (.ref f) = true ∧ Binds K fd ps [] ∧ FnOk P w K mg base CX0 k f fd ps sp
section
variable {fa : List He.Fa} {fn : List He.DefD} {ex : PySem.W.Frag → Bool} {K : PySem.W.Frag} {mg : Str → Option Value} {P : Program} {w : World} {base : Heap}
theorem Fx.free (E : Fx fa fn ex K mg) (i : Nat) {x : Str} (h : fa[i]? = some (.free x) := by rfl) : mg x = none := E.gloN _ (He.eqO_ok (E.d.fact i h))
theorem Fx.gref (E : Fx fa fn ex K mg) (i : Nat) {x : Str} (h : fa[i]? = some (.glo x) := by rfl) : mg x = some (.ref (He.ga K x)) := E.glo _ _ (He.eqO_ok (E.d.fact i h))
theorem Fx.cal (E : Fx fa fn ex K mg) (i j : Nat) {x : Str} {st : Stmt} {ps : List Str} {k : Nat} {sp : Sp} (hi : fn[i]? = some ⟨(x, none), x, x, defArgs st, defBody st, defScope st, [], []⟩) (hj : fa[j]? = some (.glo x))
    (hbi : ∀ (kV doc pm : Value) (an : Option Addr) (cdv ct : Value) (us : List Value), us.length = ps.length → bindArgs (PySem.W.fnOf x x (defArgs st) (defBody st) (defScope st) .none kV doc pm an cdv ct) ⟨us, []⟩ = pure (ps.zip us))
    (hf : ∀ f fd, FunD K x x (defArgs st) (defBody st) (defScope st) [] [] f fd → FnOk P w K mg base CX0 k f fd ps sp) : Cal P w K mg base x k ps sp := by
  obtain ⟨fd, F⟩ := E.d.def_ i hi
  exact ⟨_, fd, E.gref j hj, F.kp, F.bindsN hbi, hf _ fd F⟩
/-- a def that changes nothing -/
theorem okRD {γ : Type} [iγ : Py K γ] {x qual : Str} {st : Stmt} {f : Addr} {fd : FuncData} {N ps : List Str} {k : Nat} {A : List (Slot K) → (γ → Prop) → Prop} {dvs : List V} {kws : List (Str × V)} (F : FunD K x qual (defArgs st) (defBody st) (defScope st) dvs kws f fd) (S : FnScope N ps (defScope st)) (hlen : ∀ xs P', A xs P' → xs.length = ps.length)
    (hb : ∀ (cdv : Value) (Ar : Around) (outer : List PySem.Env) (s : Shared) (H : Hp) (E : XK), Room k (Ar.deeper (envOfC qual (defScope st) s.heap.objs.size f cdv)) → ∀ (xs : List (Slot K)) (P' : γ → Prop), A xs P' →
      ∃ t, PSs (cxOf CX0 P w K mg base N qual (defScope st) f cdv Ar outer s H E).nox (defBody st) t ∧
        ∀ (g : Hp) (σ : L2.St) (Q : VK), S0 ⟨[], g, H⟩ g H σ (xs ++ List.replicate (N.length - xs.length) .unk) [] →
          (∀ v z g' h' σ' env' os', P' z → S0 ⟨[], g, H⟩ g' h' σ' (env' : Env K) os' → iγ.R g' v z → Q v h') → t { nx := fun _ H' => Q .non H', rt := Q } σ H) : FnOk P w K mg base CX0 (k + 1) f fd ps (SpR K A) := by
  refine F.ok S (fun vs H Q E h => ?_) (fun cdv Ar outer s H vs Q E hr h => ?_)
  · obtain ⟨g, xs, P', hA, _, r, _⟩ := h
    rw [args_len r]
    exact hlen xs P' hA
  · obtain ⟨g, xs, P', hA, gh, r, q⟩ := h
    obtain ⟨t, ht, hq⟩ := hb cdv Ar outer s H E hr xs P' hA
    exact ⟨t, ht.nox, hq g _ Q (S0.start gh r) fun v z g' h' σ' env' os' hz s' rz => q v z g' h' hz (s'.fin rfl) rz⟩
end
section
variable {X : Cx} {x : Str} {k : Nat} {ps : List Str} {sp : Sp} {e : Expr} {es : List Expr} {p pos : Pos} {t : TA}
/-- a call of such a def -/
theorem pe_c (C : Cal X.prog X.w X.K X.mg X.base x k ps sp) (hr : Room k X.A) (hg : Gl X x) (ha : PA X (e :: es) t) (hdb : (x == ("__debug__" : Str)) = false := by decide)
    (he : starEach (e :: es) X.env = (false, eval e X.env) :: starEach es X.env := by rfl) (hpl : (backTo pos (starEach es X.env)).any (·.1) = false := by rfl) : PE X (.Call (.Name x p) (e :: es) [] pos) (tCall sp [] E0 t) := by
  obtain ⟨f, fd, gm, kp, bi, ok⟩ := C
  exact pe_call ok hr hg gm kp bi .nil pass0 ha hdb he hpl
end
end Lw
namespace K34
open PySem PySem.Spec PyProof.Rows L2 Lw RZ
def topS (i : Nat) : Stmt := PySem.Challenge.pw_planyard_k34_shares_by_orders.main.body.getD i (.Pass ⟨0, 0, 0, 0⟩)
def dd (x : Str) (i : Nat) : He.DefD := ⟨(x, none), x, x, defArgs (topS i), defBody (topS i), defScope (topS i), [], []⟩
def fn : List He.DefD := [dd "below" 2, dd "first_setting" 3, dd "next_setting" 4, dd "all_settings" 5, dd "reduced" 7, dd "added" 8, dd "brings_about" 9, dd "_joined" 10, dd "shares_of" 11, dd "_law_bag" 13, dd "_law_take" 14, dd "_law_common" 15, dd "_law_lowest" 16, dd "_law_is_pair" 17, dd "_law_settings" 18, dd "_law_orders" 19, dd "_law_brings" 20, dd "_law_shares" 21, dd "_law_fractions" 22, dd "_law_sum" 23, dd "_law_added_holds" 24, dd "_law_reduced_holds" 25, dd "law" 26]
def fa : List He.Fa := [.glo "below", .glo "first_setting", .glo "next_setting", .glo "all_settings", .glo "reduced", .glo "added", .glo "brings_about", .glo "_joined", .glo "shares_of", .glo "_law_bag", .glo "_law_take", .glo "_law_common", .glo "_law_lowest", .glo "_law_is_pair", .glo "_law_settings", .glo "_law_orders", .glo "_law_brings", .glo "_law_shares", .glo "_law_fractions", .glo "_law_sum", .glo "_law_added_holds", .glo "_law_reduced_holds", .glo "law", .free "zip", .free "any", .free "tuple", .free "max", .free "range", .free "list", .free "len", .free "sum", .free "int", .free "isinstance", .free "bool"]
def names : List Str := ["below", "first_setting", "next_setting", "all_settings", "reduced", "added", "brings_about", "_joined", "shares_of", "_law_bag", "_law_take", "_law_common", "_law_lowest", "_law_is_pair", "_law_settings", "_law_orders", "_law_brings", "_law_shares", "_law_fractions", "_law_sum", "_law_added_holds", "_law_reduced_holds"]
def ex (K : PySem.W.Frag) : Bool := decide (PySem.W.nsIn K mainGlobals "gcd" = some (some (.builtin "math.gcd"))) && decide (PySem.W.nsIn K mainGlobals "factorial" = some (some (.builtin "math.factorial")))
abbrev FX (K : PySem.W.Frag) (mg : Str → Option Value) : Prop := Lw.Fx fa fn ex K mg
theorem E_gcd {K : PySem.W.Frag} {mg : Str → Option Value} (E : FX K mg) : mg "gcd" = some (.builtin "math.gcd") := E.glo _ _ (of_decide_eq_true (Bool.and_eq_true_iff.mp E.more).1)
theorem E_factorial {K : PySem.W.Frag} {mg : Str → Option Value} (E : FX K mg) : mg "factorial" = some (.builtin "math.factorial") := E.glo _ _ (of_decide_eq_true (Bool.and_eq_true_iff.mp E.more).2)
end K34
namespace K34
open PySem PySem.Spec PyProof.Rows L2 Lw RZ
variable {P : Program} {w : World} {K : PySem.W.Frag} {mg : Str → Option Value} {base : Heap}
def belowB (xs ys : List Int) : Bool := (xs.zip ys).all fun p => decide (p.1 ≤ p.2)
def a_below (K : PySem.W.Frag) : List (Slot K) → (Bool → Prop) → Prop := fun xs P => ∃ low high : Tup Int, xs = [sv low, sv high] ∧ low.l.length = high.l.length ∧ P (belowB low.l high.l)
theorem zip_get {xs ys : List Int} {n : Nat} {x y : Int} (h1 : xs[n]? = some x) (h2 : ys[n]? = some y) : (xs.zip ys)[n]? = some (x, y) := by
  rw [List.getElem?_zip_eq_some]; exact ⟨h1, h2⟩
theorem all_take_succ {α : Type} {p : α → Bool} {xs : List α} {n : Nat} {x : α} (h : xs[n]? = some x) : (xs.take (n + 1)).all p = ((xs.take n).all p && p x) := by
  rw [List.take_add_one, h, List.all_append]; simp
theorem sc_below : FnScope ["low", "high", "one", "other"] ["low", "high"] (defScope (topS 2)) := ⟨rfl, rfl, rfl, by decide +kernel, rfl, by decide +kernel, by decide +kernel⟩
theorem ok_below (E : FX K mg) : Cal P w K mg base "below" 1 ["low", "high"] (SpR K (a_below K)) := by
  refine E.cal 0 0 (st := topS 2) rfl rfl (fun _ _ _ _ _ _ us hl => match us, hl with | [_, _], _ => rfl) fun f fd F => okRD F sc_below (fun xs P' h => ?_) (fun cdv Ar outer s0 H0 E0 hr xs P' h => ?_)
  · obtain ⟨_, _, rfl, _⟩ := h; rfl
  · obtain ⟨low, high, rfl, hl, hP⟩ := h
    refine ⟨_, (pss_cons (ps_for PassesOwn.never rfl (pi_zipA (by rfl) (E.free 23) (pa_cons (pv 0) (pa_cons (pv 1) pa_nil))) (pg_tup rfl (pgs_cons (pg_name (i := 2) sc_below.nd rfl (.inl rfl)) (pgs_cons (pg_name (i := 3) sc_below.nd rfl (.inl rfl)) pgs_nil)))
      (pss_one (ps_if (pt_cmpR op_gt (pv 2) (pv 3) (nomark _)) (pss_one (ps_ret pe_bl)) pss_nil)))
    (pss_one (ps_ret pe_bl))), fun g σ Q s fin => ?_⟩
    -- for one, other in zip(low, high):
    refine st_for_zipT tgt_pair s (ev_var rfl) (ev_var rfl) hl (fun n e o => ∃ s2 s3, e = [sv low, sv high, s2, s3] ∧ ((low.l.zip high.l).take n).all (fun p => decide (p.1 ≤ p.2)) = true) ⟨_, _, rfl, rfl⟩ (fun n x y hx hy c hls e o g h σ N hI back s hN => ?_) (fun e o g h σ hI s => ?_)
    · obtain ⟨s2, s3, rfl, ha⟩ := hI
      have hz := zip_get hx hy
      -- if one > other:
      refine st_if s (et_test (ev_ib (ev_var rfl) (ev_var rfl))) (fun hc g h s => ?_) (fun hc g h s => ?_)
      · -- return False
        refine st_ret s ev_bl ?_
        refine fun v g h s r => fin v _ g h _ _ _ ?_ (back s) r
        have : belowB low.l high.l = false := by
          unfold belowB
          rw [List.all_eq_false]
          exact ⟨(x, y), List.mem_of_getElem? hz, by have := of_decide_eq_true hc; simp; omega⟩
        rw [this] at hP
        exact hP
      · refine hN _ _ _ _ _ ⟨_, _, rfl, ?_⟩ s
        rw [all_take_succ hz, ha]
        have := of_decide_eq_false hc
        simp; omega
    · obtain ⟨s2, s3, rfl, ha⟩ := hI
      -- return True
      dsimp only
      refine st_ret s ev_bl ?_
      refine fun v g h s r => fin v _ g h _ _ _ ?_ s r
      have e : belowB low.l high.l = true := by
        rw [List.take_of_length_le (by rw [List.length_zip]; omega)] at ha
        exact ha
      rw [e] at hP
      exact hP
def a_first (K : PySem.W.Frag) : List (Slot K) → (Tup Int → Prop) → Prop := fun xs P => ∃ tops : Tup Int, xs = [sv tops] ∧ tops.l.length ≤ 1000 ∧ P ⟨List.replicate tops.l.length 0⟩
theorem sc_first_setting : FnScope ["tops"] ["tops"] (defScope (topS 3)) := ⟨rfl, rfl, rfl, by decide +kernel, rfl, by decide +kernel, by decide +kernel⟩
theorem rep_one {x : Int} {n : Nat} : (List.replicate n [x]).flatten = List.replicate n x := by
  induction n with
  | zero => rfl
  | succ n ih => rw [List.replicate_succ, List.flatten_cons, ih]; rfl
theorem ok_first_setting (E : FX K mg) : Cal P w K mg base "first_setting" 1 ["tops"] (SpR K (a_first K)) := by
  refine E.cal 1 1 (st := topS 3) rfl rfl (fun _ _ _ _ _ _ us hl => match us, hl with | [_], _ => rfl) fun f fd F => okRD F sc_first_setting (fun xs P' h => ?_) (fun cdv Ar outer s0 H0 E0 hr xs P' h => ?_)
  · obtain ⟨_, rfl, _⟩ := h; rfl
  · obtain ⟨tops, rfl, hl, hP⟩ := h
    refine ⟨_, (pss_one (ps_ret (pe_op op_repTA (pe_tup (pa_cons pe_int pa_nil)) (pe_callB call_len_seq (by rfl) (E.free 29) (by decide +kernel) (pa_cons (pv 0) pa_nil))))), fun g σ Q s fin => ?_⟩
    -- return (0,) * len(tops)
    refine st_ret s (ev_repT (ev_tupL (el_cons ev_int el_nil)) (ev_lenT (ev_var rfl)) ⟨by decide, by decide⟩ ⟨by omega, by omega⟩) ?_
    refine fun v g h s r => fin v _ g h _ _ _ ?_ s r
    rw [rep_one, Int.toNat_natCast]
    exact hP
end K34
namespace K34
open PySem PySem.Spec PyProof.Rows L2 Lw RZ
variable {P : Program} {w : World} {K : PySem.W.Frag} {mg : Str → Option Value} {base : Heap}
/-! ### settings -/
def nextS : List Int → List Int → Option (List Int)
  | t :: ts, l :: ls => match nextS ts ls with
    | some r => some (l :: r)
    | none => if l = t then none else some ((l + 1) :: List.replicate ls.length 0)
  | _, _ => none
theorem nextS_self : ∀ ts : List Int, nextS ts ts = none
  | [] => rfl
  | t :: ts => by unfold nextS; rw [nextS_self ts]; simp
theorem nextS_at : ∀ (ts ls : List Int) (p : Nat) (l : Int), ts.length = ls.length → ls[p]? = some l → ts[p]? ≠ some l → ts.drop (p + 1) = ls.drop (p + 1) → nextS ts ls = some (ls.take p ++ [l + 1] ++ List.replicate (ls.length - p - 1) 0)
  | [], ls, p, l, h, h1, _, _ => by
    have : ls = [] := List.eq_nil_of_length_eq_zero h.symm
    subst this
    simp at h1
  | t :: ts, [], p, l, h, _, _, _ => by cases h
  | t :: ts, x :: xs, 0, l, h, h1, h2, h3 => by
    have e1 : x = l := by simpa using h1
    have e2 : t ≠ l := by simpa using h2
    have e3 : ts = xs := by simpa using h3
    subst e1 e3
    unfold nextS
    rw [nextS_self]
    simp [Ne.symm e2]
  | t :: ts, x :: xs, p + 1, l, h, h1, h2, h3 => by
    have ih := nextS_at ts xs p l (by simpa using h) (by simpa using h1) (by simpa using h2) (by simpa using h3)
    unfold nextS
    rw [ih]
    simp
theorem drop_one {α : Type} {xs : List α} {n : Nat} {x : α} (h : xs[n]? = some x) : xs.drop n = x :: xs.drop (n + 1) := by
  obtain ⟨hn, rfl⟩ := List.getElem?_eq_some_iff.mp h
  exact List.drop_eq_getElem_cons hn
def a_next (K : PySem.W.Frag) : List (Slot K) → (Option (Tup Int) → Prop) → Prop := fun xs P => ∃ tops levels : Tup Int, xs = [sv tops, sv levels] ∧ (tops.l.length = levels.l.length ∧ levels.l.length ≤ 1000) ∧ P ((nextS tops.l levels.l).map Tup.mk)
theorem sc_next_setting : FnScope ["tops", "levels", "place"] ["tops", "levels"] (defScope (topS 4)) := ⟨rfl, rfl, rfl, by decide +kernel, rfl, by decide +kernel, by decide +kernel⟩
theorem atI_int {α : Type} {xs : List α} {i : Int} {v : α} (h0 : 0 ≤ i) (h : xs[i.toNat]? = some v) : atI xs i = some v := by
  have := atI_nat (j := i.toNat) h
  rwa [Int.toNat_of_nonneg h0] at this
theorem cut_to {α : Type} {xs : List α} {i : Int} (h0 : 0 ≤ i) (h1 : i ≤ xs.length) : cut xs none (some i) = xs.take i.toNat := by
  unfold cut
  have e : (some i : Option Int) = some ((i.toNat : Nat) : Int) := by rw [Int.toNat_of_nonneg h0]
  rw [e, HT.sIx_nat, HT.sIx_none]
  have : min i.toNat xs.length = i.toNat := by omega
  rw [this]
  simp
theorem cut_from {α : Type} {xs : List α} {i : Int} (h0 : 0 ≤ i) (h1 : i ≤ xs.length) : cut xs (some i) none = xs.drop i.toNat := by
  unfold cut
  have e : (some i : Option Int) = some ((i.toNat : Nat) : Int) := by rw [Int.toNat_of_nonneg h0]
  rw [e, HT.sIx_nat, HT.sIx_none]
  have : min i.toNat xs.length = i.toNat := by omega
  rw [this]
  apply List.take_of_length_le
  rw [List.length_drop]
  omega
theorem ev_noneT {env : Env K} {os : Os} {te : TE} (h : Ev te env os ()) : Ev te env os (none : Option (Tup Int)) := fun {b g h' σ Q} s q => h s fun v g1 h1 l1 r1 => q v g1 h1 l1 r1
theorem ev_someT {env : Env K} {os : Os} {te : TE} {x : Tup Int} (h : Ev te env os x) : Ev te env os (some x) := fun {b g h' σ Q} s q => h s fun v g1 h1 l1 r1 => q v g1 h1 l1 (by
    refine ⟨?_, r1⟩
    obtain ⟨a, vs, rfl, _⟩ := r1
    intro z
    cases z)
theorem ok_next_setting (E : FX K mg) : Cal P w K mg base "next_setting" 1 ["tops", "levels"] (SpR K (a_next K)) := by
  refine E.cal 2 2 (st := topS 4) rfl rfl (fun _ _ _ _ _ _ us hl => match us, hl with | [_, _], _ => rfl) fun f fd F => okRD F sc_next_setting (fun xs P' h => ?_) (fun cdv Ar outer s0 H0 E0 hr xs P' h => ?_)
  · obtain ⟨_, _, rfl, _⟩ := h; rfl
  · obtain ⟨tops, levels, rfl, ⟨hl, hz⟩, hP⟩ := h
    refine ⟨_, (pss_cons (ps_set (i := 2) sc_next_setting.nd rfl (.inl rfl) (pe_op op_sub (pe_callB call_len_seq (by rfl) (E.free 29) (by decide +kernel) (pa_cons (pv 0) pa_nil)) pe_int))
    (pss_cons (ps_while PassesOwn.never (PW.pt (pw_and (pt_cmpR op_ge (pv 2) pe_int (nomark _)) (pw_and1 (pt_cmpR op_eq (pe_ix ix_tup (pv 1) (pv 2) (fun _ _ => rfl)) (pe_ix ix_tup (pv 0) (pv 2) (fun _ _ => rfl)) (nomark _)))))
      (pss_one (ps_set (i := 2) sc_next_setting.nd rfl (.inl rfl) (pe_op op_sub (pv 2) pe_int))))
    (pss_cons (ps_if (pt_cmpR op_lt (pv 2) pe_int (nomark _)) (pss_one (ps_ret pe_non)) pss_nil)
    (pss_one (ps_ret (pe_op op_catA (pe_op op_catA (pe_slice sl_tupA (pv 1) po_none (po_some (pv 2))) (pe_tup (pa_cons (pe_op op_add (pe_ix ix_tup (pv 1) (pv 2) (fun _ _ => rfl)) pe_int) pa_nil))) (pe_op op_repTA (pe_tup (pa_cons pe_int pa_nil)) (pe_op op_sub (pe_op op_sub (pe_callB call_len_seq (by rfl) (E.free 29) (by decide +kernel) (pa_cons (pv 0) pa_nil)) (pv 2)) pe_int)))))))), fun g σ Q s fin => ?_⟩
    -- place = len(tops) - 1
    refine st_set s (ev_i2 (ev_lenT (ev_var rfl)) ev_int) (fun v g h s => ?_)
    -- while place >= 0 and levels[place] == tops[place]:
    refine st_while s (fun m e o => ∃ p : Int, e = [sv tops, sv levels, sv p] ∧ -1 ≤ p ∧ p < levels.l.length ∧ m = (p + 1).toNat ∧ tops.l.drop (p + 1).toNat = levels.l.drop (p + 1).toNat) tops.l.length ⟨(tops.l.length : Int) - 1, rfl, by omega, by omega, by omega, ?_⟩ (fun m e o g h σ hI s => ?_)
    · rw [List.drop_eq_nil_of_le (by omega), List.drop_eq_nil_of_le (by omega)]
    obtain ⟨p, rfl, h1, h2, rfl, h3⟩ := hI
    by_cases hp : 0 ≤ p
    · have ex1 : levels.l[p.toNat]? = some (levels.l[p.toNat]'(by omega)) := List.getElem?_eq_getElem _
      have ex2 : tops.l[p.toNat]? = some (tops.l[p.toNat]'(by omega)) := List.getElem?_eq_getElem _
      refine ⟨_, et_and (et_test (ev_ib (ev_var rfl) ev_int)) fun _ => et_test (ev_eqI (ev_ixT (ev_var rfl) (ev_var rfl) (atI_int hp ex1)) (ev_ixT (ev_var rfl) (ev_var rfl) (atI_int hp ex2))), fun hc g h N s hN => ?_, fun hc g h s => ?_⟩
      · -- place = place - 1
        rw [decide_eq_true hp, Bool.true_and, decide_eq_true_eq] at hc
        refine st_set s (ev_i2 (ev_var rfl) ev_int) (fun v g h s => ?_)
        refine hN _ _ _ _ _ _ (by omega) ⟨p - 1, rfl, by omega, by omega, rfl, ?_⟩ s
        have e1 : (p - 1 + 1).toNat = p.toNat := by omega
        have e2 : (p + 1).toNat = p.toNat + 1 := by omega
        rw [e1, drop_one ex1, drop_one ex2, hc, ← e2, h3]
      · rw [decide_eq_true hp, Bool.true_and, decide_eq_false_iff_not] at hc
        dsimp only
        -- if place < 0:
        refine st_if s (et_test (ev_ib (ev_var rfl) ev_int)) (fun hc g h s => ?_) (fun hc' g h s => ?_)
        · exact absurd (of_decide_eq_true hc) (by omega)
        · refine st_ret s (ev_someT (ev_catT (ev_catT (ev_slT (ev_var rfl) eo_none (eo_some (ev_var rfl))) (ev_tupL (el_cons (ev_i2 (ev_ixT (ev_var rfl) (ev_var rfl) (atI_int hp ex1)) ev_int) el_nil)) ?_) (ev_repT (ev_tupL (el_cons ev_int el_nil)) (ev_i2 (ev_i2 (ev_lenT (ev_var rfl)) (ev_var rfl)) ev_int) ⟨by decide, by decide⟩ ⟨by omega, by omega⟩) ?_)) ?_
          · rw [cut_to hp (by omega), List.length_take]
            exact Nat.le_trans (m := 2000) (by simp; omega) (by decide)
          · simp only [cut_to hp (show p ≤ levels.l.length by omega), rep_one, List.length_append, List.length_take, List.length_replicate]
            exact Nat.le_trans (m := 3000) (by simp; omega) (by decide)
          · refine fun v g h s r => fin v _ g h _ _ _ ?_ s r
            have e2 : (p + 1).toNat = p.toNat + 1 := by omega
            rw [nextS_at tops.l levels.l p.toNat _ hl ex1 (by rw [ex2]; exact fun z => hc (Option.some.inj z).symm) (by rw [← e2]; exact h3)] at hP
            have e3 : ((tops.l.length : Int) - p - 1).toNat = levels.l.length - p.toNat - 1 := by omega
            rw [cut_to hp (by omega), rep_one, e3]
            exact hP
    · have hp1 : p = -1 := by omega
      subst hp1
      refine ⟨false, EvT.to (et_and (d := true) (et_test (ev_ib (ev_var rfl) ev_int)) fun z => absurd (of_decide_eq_true z) (by decide)) (by rfl), fun hc g h N s hN => ?_, fun hc g h s => ?_⟩
      · cases hc
      dsimp only
      refine st_if s (et_test (ev_ib (ev_var rfl) ev_int)) (fun hc g h s => ?_) (fun hc' g h s => ?_)
      · refine st_ret s (ev_noneT ev_non) (fun v g h s r => fin v _ g h _ _ _ ?_ s r)
        have : tops.l = levels.l := by simpa using h3
        rw [this, nextS_self] at hP
        exact hP
      · exact absurd (of_decide_eq_false hc') (by decide)
end K34
namespace K34
open PySem PySem.Spec PyProof.Rows L2 Lw RZ
variable {P : Program} {w : World} {K : PySem.W.Frag} {mg : Str → Option Value} {base : Heap}
/-! ### all settings -/
def allS : List Int → List (List Int)
  | [] => [[]]
  | t :: ts => (upto (t + 1).toNat).flatMap fun l => (allS ts).map (l :: ·)
/-- xs are the settings from x on, each the next one of the one before -/
inductive Run (ts : List Int) : List Int → List (List Int) → Prop where
  | last {x : List Int} : nextS ts x = none → Run ts x [x]
  | more {x y : List Int} {r : List (List Int)} : nextS ts x = some y → Run ts y r → Run ts x (x :: r)
theorem nextS_cons_more {t : Int} {ts : List Int} {l : Int} {x y : List Int} (h : nextS ts x = some y) : nextS (t :: ts) (l :: x) = some (l :: y) := by
  show (match nextS ts x with | some r => some (l :: r) | none => _) = _
  rw [h]
theorem nextS_cons_last {t : Int} {ts : List Int} {l : Int} {x : List Int} (h : nextS ts x = none) : nextS (t :: ts) (l :: x) = if l = t then none else some ((l + 1) :: List.replicate x.length 0) := by
  show (match nextS ts x with | some r => some (l :: r) | none => if l = t then none else some ((l + 1) :: List.replicate x.length 0)) = _
  rw [h]
theorem nextS_len : ∀ {ts x y : List Int}, nextS ts x = some y → y.length = x.length
  | [], x, y, h => by simp [nextS] at h
  | t :: ts, [], y, h => by simp [nextS] at h
  | t :: ts, l :: x, y, h => by
    cases e : nextS ts x with
    | some r => rw [nextS_cons_more e] at h; cases h; simp [nextS_len e]
    | none =>
      rw [nextS_cons_last e] at h
      split at h
      · cases h
      · cases h; simp
/-- a block with the level l, and what follows -/
theorem run_block {t : Int} {ts : List Int} {l : Int} {x : List Int} {r : List (List Int)} (h : Run ts x r) (n : Nat) (hx : x.length = n) (rest : List (List Int)) (hl : (l = t ∧ rest = []) ∨ (l ≠ t ∧ Run (t :: ts) ((l + 1) :: List.replicate n 0) rest)) : Run (t :: ts) (l :: x) (r.map (l :: ·) ++ rest) := by
  induction h with
  | last e =>
    rcases hl with ⟨rfl, rfl⟩ | ⟨hne, hr⟩
    · refine .last ?_
      rw [nextS_cons_last e, if_pos rfl]
    · refine .more (y := (l + 1) :: List.replicate n 0) ?_ hr
      rw [nextS_cons_last e, if_neg hne, hx]
  | more e _ ih =>
    refine .more (nextS_cons_more e) (ih ?_)
    rw [nextS_len e]; exact hx
theorem upto_succ (n : Nat) : upto (n + 1) = upto n ++ [(n : Int)] := by unfold upto; rw [List.range_succ, List.map_append]; rfl
theorem run_from {t : Int} {ts : List Int} (ht : 0 ≤ t) (h : Run ts (List.replicate ts.length 0) (allS ts)) : ∀ (k : Nat) (l : Int), l + k = t → 0 ≤ l → Run (t :: ts) (l :: List.replicate ts.length 0) ((List.range (k + 1)).flatMap fun (j : Nat) => (allS ts).map ((l + (j : Int)) :: ·))
  | 0, l, e, h0 => by
    have := run_block (t := t) (l := l) h ts.length (by simp) [] (.inl ⟨by omega, rfl⟩)
    simpa using this
  | k + 1, l, e, h0 => by
    have ih := run_from ht h k (l + 1) (by omega) (by omega)
    have := run_block (t := t) (l := l) h ts.length (by simp) _ (.inr ⟨by omega, ih⟩)
    rw [List.range_succ_eq_map, List.flatMap_cons, List.flatMap_map]
    have e2 : (fun j : Nat => (allS ts).map ((l + ((j.succ : Nat) : Int)) :: ·)) = fun j : Nat => (allS ts).map ((l + 1 + (j : Int)) :: ·) := by
      funext j
      have : l + ((j.succ : Nat) : Int) = l + 1 + (j : Int) := by omega
      rw [this]
    show Run _ _ (_ ++ List.flatMap (fun j : Nat => (allS ts).map ((l + ((j.succ : Nat) : Int)) :: ·)) (List.range (k + 1)))
    rw [e2]
    simpa using this
theorem run_all : ∀ ts : List Int, (∀ t ∈ ts, 0 ≤ t) → Run ts (List.replicate ts.length 0) (allS ts)
  | [], _ => .last rfl
  | t :: ts, h => by
    have ht := h t List.mem_cons_self
    have ih := run_all ts fun u hu => h u (List.mem_cons_of_mem _ hu)
    have := run_from ht ih t.toNat 0 (by omega) (by omega)
    have e : (t + 1).toNat = t.toNat + 1 := by omega
    show Run (t :: ts) (0 :: List.replicate ts.length 0) ((upto (t + 1).toNat).flatMap fun l => (allS ts).map (l :: ·))
    unfold upto
    rw [e, List.flatMap_map]
    simpa using this
theorem run_head {ts x : List Int} {r : List (List Int)} (h : Run ts x r) : ∃ r', r = x :: r' := by cases h <;> exact ⟨_, rfl⟩
theorem run_len {ts x : List Int} {r : List (List Int)} (h : Run ts x r) : ∀ y ∈ r, y.length = x.length := by
  induction h with
  | last _ => intro y hy; rw [List.mem_singleton] at hy; rw [hy]
  | more e _ ih =>
    intro y hy
    rcases List.mem_cons.mp hy with rfl | hy
    · rfl
    · rw [ih y hy, nextS_len e]
def a_allS (K : PySem.W.Frag) : List (Slot K) → (List (Tup Int) → Prop) → Prop := fun xs P => ∃ tops : Tup Int, xs = [sv tops] ∧ ((∀ t ∈ tops.l, 0 ≤ t) ∧ tops.l.length ≤ 1000 ∧ (allS tops.l).length ≤ 1000000) ∧ P ((allS tops.l).map Tup.mk)
theorem sc_all_settings : FnScope ["tops", "found", "levels"] ["tops"] (defScope (topS 5)) := ⟨rfl, rfl, rfl, by decide +kernel, rfl, by decide +kernel, by decide +kernel⟩
theorem ok_all_settings (E : FX K mg) : Cal P w K mg base "all_settings" 2 ["tops"] (SpR K (a_allS K)) := by
  refine E.cal 3 3 (st := topS 5) rfl rfl (fun _ _ _ _ _ _ us hl => match us, hl with | [_], _ => rfl) fun f fd F => okRD F sc_all_settings (fun xs P' h => ?_) (fun cdv Ar outer s0 H0 E0 hr xs P' h => ?_)
  · obtain ⟨_, rfl, _⟩ := h; rfl
  · obtain ⟨tops, rfl, ⟨ht, hl, hz⟩, hP⟩ := h
    refine ⟨_, (pss_cons (ps_set (i := 1) sc_all_settings.nd rfl (.inl rfl) (pe_lst pa_nil))
    (pss_cons (ps_set (i := 2) sc_all_settings.nd rfl (.inl rfl) (pe_c (ok_first_setting E) (hr.mono (by decide)) rfl (pa_cons (pv 0) pa_nil)))
    (pss_cons (ps_while PassesOwn.never (pt_cmpR op_notN (pv 2) pe_non (nomark _))
      (pss_cons (ps_expr (pe_bm PySem.F.plainAttrs_list PySem.F.slot_list_append PySem.F.type_list_append mt_append (pv 1) (pa_cons (pv 2) pa_nil)))
    (pss_one (ps_set (i := 2) sc_all_settings.nd rfl (.inl rfl) (pe_c (ok_next_setting E) (hr.mono (by decide)) rfl (pa_cons (pv 0) (pa_cons (pv 2) pa_nil)))))))
    (pss_one (ps_ret (pv 1)))))), fun g σ Q s fin => ?_⟩
    -- found = []
    refine st_setN s (en_lst (el_nil (α := Tup Int)) (by decide)) (fun l g h s => ?_)
    -- levels = first_setting(tops)
    refine st_set s (ev_someT (ev_call (ea_cons (ev_var rfl) ea_nil) ⟨_, rfl, hl, rfl⟩)) (fun v g h s => ?_)
    -- while levels is not None:
    obtain ⟨r0, er⟩ := run_head (run_all tops.l ht)
    refine st_while s (fun m e o => ∃ (x : Option (Tup Int)) (pre suf : List (List Int)), e = [sv tops, sv (V.ref l), sv x] ∧ o = [(l, Own.lst K (pre.map Tup.mk))] ∧ allS tops.l = pre ++ suf ∧ m = suf.length ∧ ((x = none ∧ suf = []) ∨ ∃ y, x = some ⟨y⟩ ∧ Run tops.l y suf)) (allS tops.l).length ⟨_, [], allS tops.l, rfl, rfl, rfl, rfl, .inr ⟨_, rfl, run_all tops.l ht⟩⟩ (fun m e o g h σ hI s => ?_)
    obtain ⟨x, pre, suf, rfl, rfl, ea, rfl, hx⟩ := hI
    refine ⟨_, (et_test (ev_notN (ev_var rfl))), fun hc g h N s hN => ?_, fun hc g h s => ?_⟩
    · rcases hx with ⟨rfl, _⟩ | ⟨y, rfl, hr'⟩
      · cases hc
      -- found.append(levels)
      obtain ⟨suf', rfl⟩ := run_head hr'
      have hlen : y.length = tops.l.length := by
        have := run_len (run_all tops.l ht) y (by rw [ea]; exact List.mem_append_right _ List.mem_cons_self)
        simpa using this
      have hpl : (pre.map Tup.mk).length < sizeLine := by
        have := congrArg List.length ea
        rw [List.length_append, List.length_cons] at this
        rw [List.length_map]
        exact Nat.lt_of_le_of_lt (m := 1000000) (by omega) (by decide)
      refine st_append (m := 0) s rfl rfl hpl (ev_varS rfl) (fun g h s => ?_)
      -- levels = next_setting(tops, levels)
      refine st_set s (ev_call (ea_cons (ev_var rfl) (ea_cons (ev_varS rfl) ea_nil)) ⟨_, _, rfl, ⟨hlen.symm, by rw [hlen]; exact hl⟩, rfl⟩) (fun v g h s => ?_)
      refine hN suf'.length _ _ _ _ _ (by simp) ⟨_, pre ++ [y], suf', rfl, by rw [List.map_append]; rfl, by rw [ea]; simp, rfl, ?_⟩ s
      cases hr' with
      | last e => exact .inl ⟨by rw [e]; rfl, rfl⟩
      | more e r => exact .inr ⟨_, by rw [e]; rfl, r⟩
    · rcases hx with ⟨rfl, rfl⟩ | ⟨y, rfl, hr'⟩
      · dsimp only
        -- return found
        obtain ⟨g', s⟩ := s.freeze (i := 1) (m := 0) rfl rfl rfl
        refine st_ret s (ev_var rfl) ?_
        refine fun v g h s r => fin v _ g h _ _ _ ?_ s r
        rw [List.append_nil] at ea
        rw [← ea]
        exact hP
      · cases hc
/-! ### fractions -/
def redF (n d : Int) : Int × Int := (n / ((Nat.gcd n.natAbs d.natAbs : Nat) : Int), d / ((Nat.gcd n.natAbs d.natAbs : Nat) : Int))
def a_reduced (K : PySem.W.Frag) : List (Slot K) → (Int × Int → Prop) → Prop := fun xs P => ∃ n d : Int, xs = [sv n, sv d] ∧ (0 ≤ n ∧ 0 < d ∧ d.natAbs < 2 ^ 4000) ∧ P (redF n d)
theorem gcd_pos {n d : Int} (h : 0 < d) : 0 < ((Nat.gcd n.natAbs d.natAbs : Nat) : Int) := by
  have : 0 < Nat.gcd n.natAbs d.natAbs := Nat.gcd_pos_of_pos_right _ (by omega)
  omega
theorem gcd_le {n d : Int} (h : 0 < d) : Nat.gcd n.natAbs d.natAbs ≤ d.natAbs := Nat.le_of_dvd (by omega) (Nat.gcd_dvd_right _ _)
theorem sc_reduced : FnScope ["numerator", "denominator", "common"] ["numerator", "denominator"] (defScope (topS 7)) := ⟨rfl, rfl, rfl, by decide +kernel, rfl, by decide +kernel, by decide +kernel⟩
theorem ok_reduced (E : FX K mg) : Cal P w K mg base "reduced" 1 ["numerator", "denominator"] (SpR K (a_reduced K)) := by
  refine E.cal 4 4 (st := topS 7) rfl rfl (fun _ _ _ _ _ _ us hl => match us, hl with | [_, _], _ => rfl) fun f fd F => okRD F sc_reduced (fun xs P' h => ?_) (fun cdv Ar outer s0 H0 E0 hr xs P' h => ?_)
  · obtain ⟨_, _, rfl, _⟩ := h; rfl
  · obtain ⟨numerator, denominator, rfl, ⟨h1, h2, h3⟩, hP⟩ := h
    refine ⟨_, (pss_cons (ps_set (i := 2) sc_reduced.nd rfl (.inl rfl) (pe_callBfun cr_gcd rfl (E_gcd E) (pa_cons (pv 0) (pa_cons (pv 1) pa_nil))))
    (pss_one (ps_ret (pe_tup (pa_cons (pe_op op_fdivW (pv 0) (pv 2)) (pa_cons (pe_op op_fdivW (pv 1) (pv 2)) pa_nil)))))), fun g σ Q s fin => ?_⟩
    -- common = gcd(numerator, denominator)
    refine st_set s (ev_gcd (ev_var rfl) (ev_var rfl)) (fun v g h s => ?_)
    -- return (numerator // common, denominator // common)
    have cd : ∀ x, CDivW x ((Nat.gcd numerator.natAbs denominator.natAbs : Nat) : Int) := fun x => wide_div (gcd_pos h2) (b := 4000) (by rw [Int.natAbs_natCast]; exact Nat.lt_of_le_of_lt (gcd_le h2) h3) (by decide) (by decide)
    refine st_ret s (ev_pair (ev_iC (ev_var rfl) (ev_var rfl) (cd _)) (ev_iC (ev_var rfl) (ev_var rfl) (cd _))) ?_
    exact fun v g h s r => fin v _ g h _ _ _ hP s r
def stepF (t p : Int × Int) : Int × Int := redF (t.1 * p.2 + p.1 * t.2) (t.2 * p.2)
def addF (ps : List (Int × Int)) : Int × Int := ps.foldl stepF (0, 1)
def a_added (K : PySem.W.Frag) : List (Slot K) → (Int × Int → Prop) → Prop := fun xs P => ∃ ps : List (Int × Int), xs = [sv ps] ∧ (ps.length ≤ 100 ∧ ∀ p ∈ ps, 0 ≤ p.1 ∧ p.1 < 4096 ∧ 0 < p.2 ∧ p.2 < 4096) ∧ P (addF ps)
/-- bounds on the way -/
def Bd (k : Nat) (t : Int × Int) : Prop := 0 ≤ t.1 ∧ t.1.natAbs < 2 ^ k ∧ 0 < t.2 ∧ t.2.natAbs < 2 ^ k
theorem bd_red {k : Nat} {n d : Int} (h : Bd k (n, d)) : Bd k (redF n d) := by
  obtain ⟨h1, h2, h3, h4⟩ := h
  have g0 := gcd_pos (n := n) h3
  refine ⟨Int.ediv_nonneg h1 (by omega), ?_, ?_, ?_⟩
  · show (n / _).natAbs < _
    rw [Int.natAbs_ediv_of_nonneg h1]
    exact Nat.lt_of_le_of_lt (Nat.div_le_self _ _) h2
  · show 0 < d / ((Nat.gcd n.natAbs d.natAbs : Nat) : Int)
    have hd : ((Nat.gcd n.natAbs d.natAbs : Nat) : Int) ∣ d := Int.natAbs_dvd_natAbs.mp (by rw [Int.natAbs_natCast]; exact Nat.gcd_dvd_right _ _)
    exact Int.ediv_pos_of_pos_of_dvd h3 (by omega) hd
  · show (d / _).natAbs < _
    rw [Int.natAbs_ediv_of_nonneg (by omega)]
    exact Nat.lt_of_le_of_lt (Nat.div_le_self _ _) h4
theorem bd_pre {k : Nat} {t p : Int × Int} (h : Bd k t) (hp : 0 ≤ p.1 ∧ p.1 < 4096 ∧ 0 < p.2 ∧ p.2 < 4096) : Bd (k + 13) (t.1 * p.2 + p.1 * t.2, t.2 * p.2) := by
  obtain ⟨h1, h2, h3, h4⟩ := h
  obtain ⟨p1, p2, p3, p4⟩ := hp
  have a1 : 0 ≤ t.1 * p.2 := Int.mul_nonneg h1 (by omega)
  have a2 : 0 ≤ p.1 * t.2 := Int.mul_nonneg p1 (by omega)
  have b1 : (t.1 * p.2).natAbs < 2 ^ k * 4096 := by
    rw [Int.natAbs_mul]
    exact Nat.mul_lt_mul'' h2 (by omega)
  have b2 : (p.1 * t.2).natAbs < 2 ^ k * 4096 := by
    rw [Int.natAbs_mul, Nat.mul_comm]
    exact Nat.mul_lt_mul'' h4 (by omega)
  have b3 : (t.2 * p.2).natAbs < 2 ^ k * 4096 := by
    rw [Int.natAbs_mul]
    exact Nat.mul_lt_mul'' h4 (by omega)
  have e : (2 : Nat) ^ (k + 13) = 2 ^ k * 8192 := by rw [Nat.pow_add]
  refine ⟨by show 0 ≤ t.1 * p.2 + p.1 * t.2; omega, ?_, Int.mul_pos h3 p3, ?_⟩
  · show (t.1 * p.2 + p.1 * t.2).natAbs < _
    rw [e]
    omega
  · show (t.2 * p.2).natAbs < _
    rw [e]
    omega
theorem bd_fold {ps : List (Int × Int)} (h : ∀ p ∈ ps, 0 ≤ p.1 ∧ p.1 < 4096 ∧ 0 < p.2 ∧ p.2 < 4096) : ∀ n, n ≤ ps.length → Bd (13 * n + 13) ((ps.take n).foldl stepF (0, 1))
  | 0, _ => show Bd 13 ((0 : Int), (1 : Int)) from ⟨by decide, by decide, by decide, by decide⟩
  | n + 1, hn => by
    have ih := bd_fold h n (by omega)
    obtain ⟨p, hp⟩ : ∃ p, ps[n]? = some p := ⟨_, List.getElem?_eq_getElem (by omega)⟩
    rw [List.take_add_one, hp, List.foldl_append]
    show Bd _ (stepF _ p)
    have := bd_red (bd_pre ih (h p (List.mem_of_getElem? hp)))
    rw [show 13 * (n + 1) + 13 = 13 * n + 13 + 13 by omega]
    exact this
theorem bd_up {k m : Nat} {t : Int × Int} (h : Bd k t) (hk : k ≤ m) : Bd m t := by
  have : (2 : Nat) ^ k ≤ 2 ^ m := Nat.pow_le_pow_right (by decide) hk
  exact ⟨h.1, Nat.lt_of_lt_of_le h.2.1 this, h.2.2.1, Nat.lt_of_lt_of_le h.2.2.2 this⟩
theorem foldl_take_succ {α β : Type} {f : α → β → α} {a : α} {xs : List β} {n : Nat} {x : β} (h : xs[n]? = some x) : (xs.take (n + 1)).foldl f a = f ((xs.take n).foldl f a) x := by
  rw [List.take_add_one, h, List.foldl_append]; rfl
theorem sc_added : FnScope ["pairs", "numerator", "denominator", "upper", "lower"] ["pairs"] (defScope (topS 8)) := ⟨rfl, rfl, rfl, by decide +kernel, rfl, by decide +kernel, by decide +kernel⟩
theorem wm {i j : Int} {k : Nat} (hi : i.natAbs < 2 ^ k) (hj : j.natAbs < 2 ^ 13) (hk : k ≤ 4000) (h0 : 0 < k) : CMulW i j := wide_mul hi hj h0 (by decide) (by omega)
theorem ok_added (E : FX K mg) : Cal P w K mg base "added" 2 ["pairs"] (SpR K (a_added K)) := by
  refine E.cal 5 5 (st := topS 8) rfl rfl (fun _ _ _ _ _ _ us hl => match us, hl with | [_], _ => rfl) fun f fd F => okRD F sc_added (fun xs P' h => ?_) (fun cdv Ar outer s0 H0 E0 hr xs P' h => ?_)
  · obtain ⟨_, rfl, _⟩ := h; rfl
  · obtain ⟨pairs, rfl, ⟨hl, hp⟩, hP⟩ := h
    refine ⟨_, (pss_cons (ps_asg (pe_tup (pa_cons pe_int (pa_cons pe_int pa_nil))) (pg_tup rfl (pgs_cons (pg_name (i := 1) sc_added.nd rfl (.inl rfl)) (pgs_cons (pg_name (i := 2) sc_added.nd rfl (.inl rfl)) pgs_nil))))
    (pss_cons (ps_for PassesOwn.never rfl (pi_list (pv 0)) (pg_tup rfl (pgs_cons (pg_name (i := 3) sc_added.nd rfl (.inl rfl)) (pgs_cons (pg_name (i := 4) sc_added.nd rfl (.inl rfl)) pgs_nil)))
      (pss_one (ps_asg (pe_c (ok_reduced E) (hr.mono (by decide)) rfl (pa_cons (pe_op op_add (pe_op op_mulW (pv 1) (pv 4)) (pe_op op_mulW (pv 3) (pv 2))) (pa_cons (pe_op op_mulW (pv 2) (pv 4)) pa_nil))) (pg_tup rfl (pgs_cons (pg_name (i := 1) sc_added.nd rfl (.inl rfl)) (pgs_cons (pg_name (i := 2) sc_added.nd rfl (.inl rfl)) pgs_nil))))))
    (pss_one (ps_ret (pe_tup (pa_cons (pv 1) (pa_cons (pv 2) pa_nil))))))), fun g σ Q s fin => ?_⟩
    -- numerator, denominator = (0, 1)
    refine st_tgt tgt_pair s (ev_pair ev_int ev_int) (fun g h σ s => ?_)
    -- for upper, lower in pairs:
    refine st_for_list tgt_pair s (ev_var rfl) (fun n e o => ∃ s3 s4, e = [sv pairs, sv ((pairs.take n).foldl stepF (0, 1)).1, sv ((pairs.take n).foldl stepF (0, 1)).2, s3, s4] ∧ n ≤ pairs.length) ⟨_, _, rfl, Nat.zero_le _⟩ (fun n x hx c hls e o g h σ N hI back s hN => ?_) (fun e o g h σ hI s => ?_)
    · obtain ⟨s3, s4, rfl, hn⟩ := hI
      have hx' := hp x (List.mem_of_getElem? hx)
      have hn' := (List.getElem?_eq_some_iff.mp hx).1
      have b1 := bd_up (bd_fold hp n hn) (show 13 * n + 13 ≤ 2000 by omega)
      have b2 := bd_up (bd_pre b1 hx') (show 2000 + 13 ≤ 4000 by omega)
      -- numerator, denominator = reduced(numerator * lower + upper * denominator, denominator * lower)
      refine st_tgt tgt_pair s (ev_call (ea_cons (ev_i2 (ev_iC (ev_var rfl) (ev_var rfl) (wm b1.2.1 (by omega) (by decide) (by decide))) (ev_iC (ev_var rfl) (ev_var rfl) (wide_mul (a := 13) (b := 2000) (by omega) b1.2.2.2 (by decide) (by decide) (by decide)))) (ea_cons (ev_iC (ev_var rfl) (ev_var rfl) (wm b1.2.2.2 (by omega) (by decide) (by decide))) ea_nil)) ⟨_, _, rfl, ⟨b2.1, b2.2.2.1, b2.2.2.2⟩, rfl⟩) (fun g h σ s => ?_)
      exact hN _ _ _ _ _ ⟨sv x.1, sv x.2, by rw [foldl_take_succ hx]; rfl, hn'⟩ s
    · obtain ⟨s3, s4, rfl, hn⟩ := hI
      dsimp only
      -- return (numerator, denominator)
      refine st_ret s (ev_pair (ev_var rfl) (ev_var rfl)) ?_
      refine fun v g h s r => fin v _ g h _ _ _ ?_ s r
      rw [List.take_length]
      exact hP
end K34
namespace K34
open PySem PySem.Spec PyProof.Rows L2 Lw RZ
variable {P : Program} {w : World} {K : PySem.W.Frag} {mg : Str → Option Value} {base : Heap}
def brB (brk : List (Tup Int)) (g : List Int) : Bool := brk.any fun t => belowB t.l g
def a_brings (K : PySem.W.Frag) : List (Slot K) → (Bool → Prop) → Prop := fun xs P => ∃ (brk : Tup (Tup Int)) (g : Tup Int), xs = [sv brk, sv g] ∧ (brk.l.length ≤ 1000 ∧ ∀ t ∈ brk.l, t.l.length = g.l.length) ∧ P (brB brk.l g.l)
theorem sc_brings_about : FnScope ["breakers", "group", "told"] ["breakers", "group"] (defScope (topS 9)) := ⟨rfl, rfl, rfl, by decide +kernel, rfl, by decide +kernel, by decide +kernel⟩
theorem any_map {α : Type} {f : α → Bool} {xs : List α} : (xs.map f).any id = xs.any f := by rw [List.any_map]; rfl
theorem ok_brings_about (E : FX K mg) : Cal P w K mg base "brings_about" 2 ["breakers", "group"] (SpR K (a_brings K)) := by
  refine E.cal 6 6 (st := topS 9) rfl rfl (fun _ _ _ _ _ _ us hl => match us, hl with | [_, _], _ => rfl) fun f fd F => okRD F sc_brings_about (fun xs P' h => ?_) (fun cdv Ar outer s0 H0 E0 hr xs P' h => ?_)
  · obtain ⟨_, _, rfl, _⟩ := h; rfl
  · obtain ⟨breakers, group, rfl, ⟨hz, hl⟩, hP⟩ := h
    refine ⟨_, (pss_one (ps_ret (pe_callB (cr_any rfl) (by rfl) (E.free 24) (by decide +kernel) (pa_cons (pe_lc (own := [("told", 2)]) (g := gName 2) (tt := tYes) rfl sc_brings_about.nd (pi_tup (pv 0)) (blkOk_by (N := ["breakers", "group", "told"]) (sc := defScope (topS 9)) (own := [("told", 2)]) (by decide +kernel)) (fun _ _ _ _ _ => (pg_name (i := 2) sc_brings_about.nd rfl (Or.inl rfl))) (fun _ _ _ _ _ => pts_nil) (fun _ _ _ _ _ => (pe_c (ok_below E) (hr.mono (by decide)) rfl (pa_cons (pv 2) (pa_cons (pv 1) pa_nil))))) pa_nil)))), fun g σ Q s fin => ?_⟩
    -- return any([below(told, group) for told in breakers])
    refine st_ret s (ev_any (EvN.ev (EvN.all (en_lcT tgt_name (ev_var rfl) (fun _ _ => et_yes) (fun x hx _ => (ev_call (ea_cons (ev_var rfl) (ea_cons (ev_var rfl) ea_nil)) ⟨_, _, rfl, hl x hx, rfl⟩)) (by omega))))) ?_
    refine fun v g h s r => fin v _ g h _ _ _ ?_ s r
    rw [any_map]
    exact hP
def joinS (g : List Int) (a : Nat) : List Int := g.take a ++ [1] ++ g.drop (a + 1)
def a_joined (K : PySem.W.Frag) : List (Slot K) → (Tup Int → Prop) → Prop := fun xs P => ∃ (g : Tup Int) (a : Nat), xs = [sv g, sv (a : Int)] ∧ (g.l.length ≤ 1000 ∧ a < g.l.length) ∧ P ⟨joinS g.l a⟩
theorem sc_joined : FnScope ["group", "at"] ["group", "at"] (defScope (topS 10)) := ⟨rfl, rfl, rfl, by decide +kernel, rfl, by decide +kernel, by decide +kernel⟩
theorem ok_joined (E : FX K mg) : Cal P w K mg base "_joined" 1 ["group", "at"] (SpR K (a_joined K)) := by
  refine E.cal 7 7 (st := topS 10) rfl rfl (fun _ _ _ _ _ _ us hl => match us, hl with | [_, _], _ => rfl) fun f fd F => okRD F sc_joined (fun xs P' h => ?_) (fun cdv Ar outer s0 H0 E0 hr xs P' h => ?_)
  · obtain ⟨_, _, rfl, _⟩ := h; rfl
  · obtain ⟨group, at_, rfl, ⟨hz, ha⟩, hP⟩ := h
    have e1 : cut group.l none (some (at_ : Int)) = group.l.take at_ := by rw [cut_to (by omega) (by omega)]; rfl
    have e2 : cut group.l (some ((at_ : Int) + 1)) none = group.l.drop (at_ + 1) := by rw [cut_from (by omega) (by omega)]; rfl
    refine ⟨_, (pss_one (ps_ret (pe_op op_catA (pe_op op_catA (pe_slice sl_tupA (pv 0) po_none (po_some (pv 1))) (pe_tup (pa_cons pe_int pa_nil))) (pe_slice sl_tupA (pv 0) (po_some (pe_op op_add (pv 1) pe_int)) po_none)))), fun g σ Q s fin => ?_⟩
    -- return group[:at] + (1,) + group[at + 1:]
    refine st_ret s (ev_catT (ev_catT (ev_slT (ev_var rfl) eo_none (eo_some (ev_var rfl))) (ev_tupL (el_cons ev_int el_nil)) ?_) (ev_slT (ev_var rfl) (eo_some (ev_i2 (ev_var rfl) ev_int)) eo_none) ?_) ?_
    · rw [e1, List.length_take]
      exact Nat.le_trans (m := 2000) (by simp; omega) (by decide)
    · simp only [e1, e2, List.length_append, List.length_take, List.length_drop]
      exact Nat.le_trans (m := 3000) (by simp; omega) (by decide)
    · refine fun v g h s r => fin v _ g h _ _ _ ?_ s r
      rw [e1, e2]
      exact hP
/-! ### the shares -/
def manyF (n : Nat) (g : List Int) : Int := ((Builtin.Math.factorialNat g.sum.toNat : Nat) : Int) * ((Builtin.Math.factorialNat (if (n : Int) - g.sum - 1 > 0 then (n : Int) - g.sum - 1 else 0).toNat : Nat) : Int)
def contrib (n : Nat) (brk : List (Tup Int)) (p : Nat) (g : List Int) : Int := if brB brk g = false ∧ g[p]? = some 0 ∧ brB brk (joinS g p) = true then manyF n g else 0
def ordP (n : Nat) (brk : List (Tup Int)) (p : Nat) : Int := ((allS (List.replicate n 1)).map (contrib n brk p)).sum
def a_shares (K : PySem.W.Frag) : List (Slot K) → (Tup (Int × Int) → Prop) → Prop := fun xs P => ∃ (n : Nat) (brk : Tup (Tup Int)), xs = [sv (n : Int), sv brk] ∧ (n ≤ 6 ∧ brk.l.length ≤ 1000 ∧ ∀ t ∈ brk.l, t.l.length = n) ∧
  P ⟨(List.range n).map fun p => redF (ordP n brk.l p) ((Builtin.Math.factorialNat n : Nat) : Int)⟩
theorem facts6 : ∀ n, n ≤ 6 → ∀ g ∈ allS (List.replicate n 1), g.length = n ∧ 0 ≤ g.sum ∧ g.sum ≤ n := by decide +kernel
theorem len6 : ∀ n, n ≤ 6 → (allS (List.replicate n 1)).length ≤ 64 := by decide +kernel
theorem fact720 : ∀ n, n ≤ 6 → 0 < Builtin.Math.factorialNat n ∧ Builtin.Math.factorialNat n ≤ 720 := by decide +kernel
theorem set_map {n j : Nat} {f : Nat → Int} {v : Int} : ((List.range n).map f).set j v = (List.range n).map fun p => if p = j then v else f p := by
  apply List.ext_getElem?
  intro i
  rw [List.getElem?_set]
  by_cases h : i < n
  · rw [List.getElem?_map, List.getElem?_map, List.getElem?_range h]
    by_cases hij : j = i
    · subst hij; simp [h]
    · simp [hij, Ne.symm hij]
  · have e : (List.range n)[i]? = none := by simp; omega
    rw [List.getElem?_map, List.getElem?_map, e]
    by_cases hij : j = i
    · subst hij; simp [h]
    · simp [hij]
theorem manyF_nonneg (n : Nat) (g : List Int) : 0 ≤ manyF n g := Int.mul_nonneg (by omega) (by omega)
theorem ordP_nonneg (n : Nat) (brk : List (Tup Int)) (p : Nat) : 0 ≤ ordP n brk p := by
  unfold ordP
  have : ∀ xs : List (List Int), 0 ≤ (xs.map (contrib n brk p)).sum := by
    intro xs
    induction xs with
    | nil => exact Int.le_refl _
    | cons g xs ih =>
      rw [List.map_cons, List.sum_cons]
      have : 0 ≤ contrib n brk p g := by unfold contrib; split; exact manyF_nonneg n g; omega
      omega
  exact this _
theorem sum_take_succ {f : List Int → Int} {xs : List (List Int)} {k : Nat} {g : List Int} (h : xs[k]? = some g) : ((xs.take (k + 1)).map f).sum = ((xs.take k).map f).sum + f g := by
  rw [List.take_add_one, h, List.map_append, List.sum_append]; simp
theorem sc_shares_of : FnScope ["count", "breakers", "orders", "group", "before", "many", "at", "part"] ["count", "breakers"] (defScope (topS 11)) := ⟨rfl, rfl, rfl, by decide +kernel, rfl, by decide +kernel, by decide +kernel⟩
theorem join_len {g : List Int} {a : Nat} (h : a < g.length) : (joinS g a).length = g.length := by unfold joinS; simp; omega
theorem ok_shares_of (E : FX K mg) : Cal P w K mg base "shares_of" 3 ["count", "breakers"] (SpR K (a_shares K)) := by
  refine E.cal 8 8 (st := topS 11) rfl rfl (fun _ _ _ _ _ _ us hl => match us, hl with | [_, _], _ => rfl) fun f fd F => okRD F sc_shares_of (fun xs P' h => ?_) (fun cdv Ar outer s0 H0 E0 hr xs P' h => ?_)
  · obtain ⟨_, _, rfl, _⟩ := h; rfl
  · obtain ⟨n, brk, rfl, ⟨hn, hz, hl⟩, hP⟩ := h
    refine ⟨_, (pss_cons (ps_set (i := 2) sc_shares_of.nd rfl (.inl rfl) (pe_op op_rep (pe_lst (pa_cons pe_int pa_nil)) (pv 0)))
    (pss_cons (ps_for PassesOwn.never rfl (pi_list (pe_c (ok_all_settings E) (hr.mono (by decide)) rfl (pa_cons (pe_op op_repTA (pe_tup (pa_cons pe_int pa_nil)) (pv 0)) pa_nil))) (pg_name (i := 3) sc_shares_of.nd rfl (.inl rfl))
      (pss_cons (ps_if (pt_val (pe_c (ok_brings_about E) (hr.mono (by decide)) rfl (pa_cons (pv 1) (pa_cons (pv 3) pa_nil)))) (pss_one ps_continue) pss_nil)
    (pss_cons (ps_set (i := 4) sc_shares_of.nd rfl (.inl rfl) (pe_callB (cr_sumT rfl) (by rfl) (E.free 30) (by decide +kernel) (pa_cons (pv 3) pa_nil)))
    (pss_cons (ps_set (i := 5) sc_shares_of.nd rfl (.inl rfl) (pe_op op_mul (pe_callBfun cr_factorial rfl (E_factorial E) (pa_cons (pv 4) pa_nil)) (pe_callBfun cr_factorial rfl (E_factorial E) (pa_cons (pe_callB (call_max2 rfl) (by rfl) (E.free 26) (by decide +kernel) (pa_cons pe_int (pa_cons (pe_op op_sub (pe_op op_sub (pv 0) (pv 4)) pe_int) pa_nil))) pa_nil))))
    (pss_one (ps_for PassesOwn.never rfl (pi_range1 rfl (E.free 27) (pa_cons (pv 0) pa_nil)) (pg_name (i := 6) sc_shares_of.nd rfl (.inl rfl))
      (pss_one (ps_if (PW.pt (pw_and (pt_cmpR op_eq (pe_ix ix_tup (pv 3) (pv 6) (fun _ _ => rfl)) pe_int (nomark _)) (pw_and1 (pt_val (pe_c (ok_brings_about E) (hr.mono (by decide)) rfl (pa_cons (pv 1) (pa_cons (pe_c (ok_joined E) (hr.mono (by decide)) rfl (pa_cons (pv 3) (pa_cons (pv 6) pa_nil))) pa_nil))))))) (pss_one (ps_augS (pv 2) (pv 6) pget_list (pv 5) ip_add set_list)) pss_nil))))))))
    (pss_one (ps_ret (pe_callTy call_tuple_of (by rfl) (E.free 25) (by decide +kernel) (pa_cons (pe_lc (own := [("part", 7)]) (g := gName 7) (tt := tYes) rfl sc_shares_of.nd (pi_list (pv 2)) (blkOk_by (N := ["count", "breakers", "orders", "group", "before", "many", "at", "part"]) (sc := defScope (topS 11)) (own := [("part", 7)]) (by decide +kernel)) (fun _ _ _ _ _ => (pg_name (i := 7) sc_shares_of.nd rfl (Or.inl rfl))) (fun _ _ _ _ _ => pts_nil) (fun _ _ _ _ _ => (pe_c (ok_reduced E) (hr.mono (by decide)) rfl (pa_cons (pv 7) (pa_cons (pe_callBfun cr_factorial rfl (E_factorial E) (pa_cons (pv 0) pa_nil)) pa_nil))))) pa_nil)))))), fun g σ Q s fin => ?_⟩
    -- orders = [0] * count
    refine st_setN s (en_repL (el_cons ev_int el_nil) (ev_var rfl) (by decide) ⟨by omega, by omega⟩) (fun l g h s => ?_)
    -- for group in all_settings((1,) * count):
    have er : (List.replicate (n : Int).toNat [(1 : Int)]).flatten = List.replicate n 1 := by rw [rep_one]; rfl
    have e0 : (List.replicate (n : Int).toNat [(0 : Int)]).flatten = (List.range n).map fun p => (((allS (List.replicate n 1)).take 0).map (contrib n brk.l p)).sum := by
      rw [rep_one, Int.toNat_natCast]
      simp
      apply List.ext_getElem
      · simp
      · intro i h1 h2; simp
    have hpre : (∀ t ∈ (Tup.mk (List.replicate (n : Int).toNat [(1 : Int)]).flatten).l, 0 ≤ t) ∧ (Tup.mk (List.replicate (n : Int).toNat [(1 : Int)]).flatten).l.length ≤ 1000 ∧ (allS (Tup.mk (List.replicate (n : Int).toNat [(1 : Int)]).flatten).l).length ≤ 1000000 := by
      show (∀ t ∈ (List.replicate (n : Int).toNat [(1 : Int)]).flatten, 0 ≤ t) ∧ (List.replicate (n : Int).toNat [(1 : Int)]).flatten.length ≤ 1000 ∧ (allS (List.replicate (n : Int).toNat [(1 : Int)]).flatten).length ≤ 1000000
      rw [er]
      refine ⟨fun t ht => ?_, ?_, ?_⟩
      · rw [List.mem_replicate] at ht; omega
      · rw [List.length_replicate]; omega
      · have := len6 n hn; omega
    refine st_for_list tgt_name s (ev_call (ea_cons (ev_repT (ev_tupL (el_cons ev_int el_nil)) (ev_var rfl) ⟨by decide, by decide⟩ ⟨by omega, by omega⟩) ea_nil) ⟨_, rfl, hpre, rfl⟩)
      (fun k e o => ∃ s3 s4 s5 s6 s7, e = [sv (n : Int), sv brk, sv (V.ref l), s3, s4, s5, s6, s7] ∧ o = [(l, Own.lst K ((List.range n).map fun p => (((allS (List.replicate n 1)).take k).map (contrib n brk.l p)).sum))]) ⟨_, _, _, _, _, rfl, by rw [← e0]; rfl⟩ (fun k x hx c hls e o g h σ N hI back s hN => ?_) (fun e o g h σ hI s => ?_)
    · obtain ⟨s3, s4, s5, s6, s7, rfl, rfl⟩ := hI
      rw [er, List.getElem?_map] at hx
      obtain ⟨gl, hxg, rfl⟩ : ∃ gl, (allS (List.replicate n 1))[k]? = some gl ∧ x = ⟨gl⟩ := by
        cases h : (allS (List.replicate n 1))[k]? with
        | none => rw [h] at hx; cases hx
        | some gl => rw [h] at hx; exact ⟨gl, rfl, (Option.some.inj hx).symm⟩
      obtain ⟨f1, f2, f3⟩ := facts6 n hn gl (List.mem_of_getElem? hxg)
      have hlg : ∀ t ∈ brk.l, t.l.length = (Tup.mk gl).l.length := fun t ht => (hl t ht).trans f1.symm
      -- if brings_about(breakers, group):
      refine st_if s (et_B (ev_call (ea_cons (ev_var rfl) (ea_cons (ev_var rfl) ea_nil)) ⟨_, _, rfl, ⟨hz, hlg⟩, rfl⟩)) (fun hc g h s => ?_) (fun hc g h s => ?_)
      · -- continue
        refine hN _ _ _ _ _ ⟨_, _, _, _, _, rfl, ?_⟩ s
        have : ∀ p, contrib n brk.l p gl = 0 := fun p => by unfold contrib; rw [if_neg (by rw [hc]; simp)]
        simp only [sum_take_succ hxg, this, Int.add_zero]
      · -- before = sum(group)
        dsimp only
        refine st_set s (ev_sumT (ev_var rfl)) (fun v g h s => ?_)
        -- many = factorial(before) * factorial(max(0, count - before - 1))
        have hf1 := fact720 gl.sum.toNat (by omega)
        have hmx : 0 ≤ (if (n : Int) - gl.sum - 1 > 0 then (n : Int) - gl.sum - 1 else 0) ∧ (if (n : Int) - gl.sum - 1 > 0 then (n : Int) - gl.sum - 1 else 0) ≤ 12 := by split <;> omega
        have hml : -(2 ^ 64) < ((Builtin.Math.factorialNat gl.sum.toNat : Nat) : Int) ∧ ((Builtin.Math.factorialNat gl.sum.toNat : Nat) : Int) < 2 ^ 64 := by omega
        refine st_set s (ev_iC (ev_fact (ev_var rfl) ⟨f2, by show gl.sum ≤ 12; omega⟩) (ev_fact (ev_max2 ev_int (ev_i2 (ev_i2 (ev_var rfl) (ev_var rfl)) ev_int)) hmx) (.inl hml)) (fun v g h s => ?_)
        -- for at in range(count):
        refine st_for_range s (ev_var rfl) (by omega) (by omega) (fun j e o => ∃ s6 s7, e = [sv (n : Int), sv brk, sv (V.ref l), sv (Tup.mk gl), sv gl.sum, sv (manyF n gl), s6, s7] ∧ j ≤ n ∧ o = [(l, Own.lst K ((List.range n).map fun p => (((allS (List.replicate n 1)).take k).map (contrib n brk.l p)).sum + if p < j then contrib n brk.l p gl else 0))]) ⟨_, _, rfl, Nat.zero_le _, by simp⟩ (fun j hj c' hls e o g h σ N' hI back' s hN' => ?_) (fun e o g h σ hI s => ?_)
        · obtain ⟨s6', s7', rfl, hjn, rfl⟩ := hI
          have hj' : j < n := by omega
          have exg : gl[j]? = some (gl[j]'(by omega)) := List.getElem?_eq_getElem _
          -- if group[at] == 0 and brings_about(breakers, _joined(group, at)):
          refine st_if s (et_and (et_test (ev_eqI (ev_ixT (ev_var rfl) (ev_var rfl) (atI_int (by omega) exg)) ev_int)) fun _ => (et_B (ev_call (ea_cons (ev_var rfl) (ea_cons (ev_call (ea_cons (ev_var rfl) (ea_cons (ev_var rfl) ea_nil)) ⟨_, _, rfl, ⟨by show gl.length ≤ 1000; omega, by show j < gl.length; omega⟩, rfl⟩) ea_nil)) ⟨_, _, rfl, ⟨hz, fun t ht => by show t.l.length = (joinS gl j).length; rw [join_len (by omega)]; exact hlg t ht⟩, rfl⟩))) (fun hc' g h s => ?_) (fun hc' g h s => ?_)
          · rw [Bool.and_eq_true, decide_eq_true_eq] at hc'
            -- orders[at] += many
            have hlen : ((List.range n).map fun p => (((allS (List.replicate n 1)).take k).map (contrib n brk.l p)).sum + if p < j then contrib n brk.l p gl else 0).length = n := by simp
            have hat : ((List.range n).map fun p => (((allS (List.replicate n 1)).take k).map (contrib n brk.l p)).sum + if p < j then contrib n brk.l p gl else 0)[(j : Int).toNat]? = some ((((allS (List.replicate n 1)).take k).map (contrib n brk.l j)).sum + 0) := by
              rw [Int.toNat_natCast, List.getElem?_map, List.getElem?_range hj']
              simp
            refine st_augO (m := 0) s rfl rfl (ev_var rfl) (by omega) (by rw [hlen]; omega) hat (ev_var rfl) (fun g h s => ?_)
            · refine hN' _ _ _ _ _ ⟨_, _, rfl, hj', ?_⟩ s
              show [(l, Own.lst K (List.set _ _ _))] = _
              rw [Int.toNat_natCast, set_map]
              congr 3
              apply List.map_congr_left
              intro p hp
              by_cases hpj : p = j
              · subst hpj
                have : contrib n brk.l p gl = manyF n gl := by unfold contrib; rw [if_pos ⟨hc, by rw [exg, hc'.1], hc'.2⟩]
                rw [if_pos rfl, if_pos (by omega), this]
                omega
              · rw [if_neg hpj]
                by_cases hlt : p < j
                · rw [if_pos hlt, if_pos (by omega)]
                · rw [if_neg hlt, if_neg (by omega)]
          · refine hN' _ _ _ _ _ ⟨_, _, rfl, hj', ?_⟩ s
            congr 3
            apply List.map_congr_left
            intro p hp
            by_cases hpj : p = j
            · subst hpj
              have : contrib n brk.l p gl = 0 := by
                unfold contrib
                rw [if_neg]
                rintro ⟨_, h1, h2⟩
                rw [exg] at h1
                rw [Bool.and_eq_false_iff] at hc'
                rcases hc' with z | z
                · exact (of_decide_eq_false z) (Option.some.inj h1)
                · rw [show brB brk.l (joinS gl p) = false from z] at h2; cases h2
              rw [if_neg (by omega), if_pos (by omega), this]
            · by_cases hlt : p < j
              · rw [if_pos hlt, if_pos (by omega)]
              · rw [if_neg hlt, if_neg (by omega)]
        · obtain ⟨s6', s7', rfl, _, rfl⟩ := hI
          dsimp only
          refine hN _ _ _ _ _ ⟨_, _, _, _, _, rfl, ?_⟩ s
          congr 3
          apply List.map_congr_left
          intro p hp
          rw [List.mem_range] at hp
          rw [if_pos (by omega), sum_take_succ hxg]
    · obtain ⟨s3, s4, s5, s6, s7, rfl, rfl⟩ := hI
      dsimp only
      -- return tuple([reduced(part, factorial(count)) for part in orders])
      obtain ⟨g', s⟩ := s.freeze (i := 2) (m := 0) rfl rfl rfl
      have hfn := fact720 n hn
      have hlen : ((allS (List.replicate (n : Int).toNat [(1 : Int)]).flatten).map Tup.mk).length = (allS (List.replicate n 1)).length := by rw [er, List.length_map]
      have hp : ∀ x ∈ (List.range n).map (fun p => (((allS (List.replicate n 1)).take ((allS (List.replicate (n : Int).toNat [(1 : Int)]).flatten).map Tup.mk).length).map (contrib n brk.l p)).sum), 0 ≤ x ∧ 0 < ((Builtin.Math.factorialNat (n : Int).toNat : Nat) : Int) ∧ ((Builtin.Math.factorialNat (n : Int).toNat : Nat) : Int).natAbs < 2 ^ 4000 := by
        intro x hx
        rw [List.mem_map] at hx
        obtain ⟨p, _, rfl⟩ := hx
        rw [hlen, List.take_length]
        refine ⟨ordP_nonneg n brk.l p, ?_, ?_⟩
        · rw [Int.toNat_natCast]; omega
        · rw [Int.toNat_natCast, Int.natAbs_natCast]
          exact Nat.lt_of_le_of_lt hfn.2 (Nat.lt_of_lt_of_le (by decide : 720 < 2 ^ 10) (Nat.pow_le_pow_right (by decide) (by decide)))
      refine st_ret s (ev_tupleL (EvN.ev (EvN.all (en_lcL (m := fun x => redF x ((Builtin.Math.factorialNat n : Nat) : Int)) tgt_name (ev_var rfl) (fun _ _ => et_yes) (fun x hx _ => (ev_call (ea_cons (ev_var rfl) (ea_cons (ev_fact (ev_var rfl) ⟨by omega, by omega⟩) ea_nil)) ⟨_, _, rfl, hp x hx, rfl⟩)) (by simp; omega))))) ?_
      · refine fun v g h s r => fin v _ g h _ _ _ ?_ s r
        rw [hlen, List.take_length, List.map_map]
        exact hP
end K34
/-! isinstance, == at any depth, list + list, extend, in. -/
namespace Lw
open PySem PySem.Spec PyProof.Rows L2
/-! ### types by name -/
class PyT (K : PySem.W.Frag) (α : Type) [i : Py K α] (nm : outParam String) where
  ty : ∀ {g h : Hp} {v : V} {x : α}, Same g h → i.R g v x → TyX K h v (.type nm)
section
variable {K : PySem.W.Frag} {α β : Type} [iα : Py K α] [iβ : Py K β]
theorem tyx_list {h : Hp} {a : Addr} {vs : List V} (q : SqL K h a vs) : TyX K h (.ref a) (.type "list") := by
  rcases q with (q | ⟨o, q⟩) | ⟨o, its, n, q, c, _⟩
  · exact .base (.lst q)
  · exact .base (.frz q)
  · exact .kList q c
theorem tyx_tup {h : Hp} {a : Addr} {vs : List V} (q : SqT K h a vs) : TyX K h (.ref a) (.type "tuple") := by
  rcases q with (q | ⟨o, q⟩) | ⟨o, its, n, q, c, _⟩
  · exact .base (.tup q)
  · exact .fTuple q
  · exact .kTuple q c
instance : PyT K Int "int" := ⟨fun _ r => by cases r; exact .base (.int _)⟩
instance : PyT K Bool "bool" := ⟨fun _ r => by cases r; exact .base (.bl _)⟩
instance : PyT K Str "str" := ⟨fun _ r => by cases r; exact .base (.str _)⟩
instance : PyT K Unit "NoneType" := ⟨fun _ r => by cases r; exact .base .non⟩
instance : PyT K (List α) "list" := ⟨fun e r => by obtain ⟨a, vs, rfl, q, _⟩ := r; exact tyx_list (e.seq q)⟩
instance : PyT K (Tup α) "tuple" := ⟨fun e r => by obtain ⟨a, vs, rfl, q, _⟩ := r; exact tyx_tup (same_seqT e q)⟩
instance : PyT K (α × β) "tuple" := ⟨fun e r => by obtain ⟨a, u, w, rfl, q, _⟩ := r; exact tyx_tup (same_seqT e q)⟩
end
/-! ### data for == -/
class PyD (K : PySem.W.Frag) (α : Type) [i : Py K α] (dep : outParam Nat) where
  d : α → PyData
  ok : α → Prop
  dp : ∀ {g h : Hp} {v : V} {x : α}, Same g h → i.R g v x → Dp K h v (d x)
  lay : ∀ {x : α}, ok x → (d x).canLay0 = true
  deep : ∀ x : α, (d x).depth ≤ dep
  eq : ∀ {x y : α}, PyData.eqv (d x) (d y) = true ↔ x = y
section
variable {K : PySem.W.Frag}
instance : PyD K Int 0 := ⟨.int, fun _ => True, fun _ r => by cases r; exact .int _, fun _ => rfl, fun _ => Nat.le_refl _, fun {x y} => by show (x == y) = true ↔ _; exact beq_iff_eq⟩
instance : PyD K Bool 0 := ⟨.bool, fun _ => True, fun _ r => by cases r; exact .bl _, fun _ => rfl, fun _ => Nat.le_refl _, fun {x y} => by show (x == y) = true ↔ _; exact beq_iff_eq⟩
instance : PyD K Str 0 := ⟨.str, fun x => x.cps.all (· < 0x110000) = true, fun _ r => by cases r; exact .str _, fun h => h, fun _ => Nat.le_refl _, fun {x y} => by show (x == y) = true ↔ _; exact beq_iff_eq⟩
variable {α β : Type} [iα : Py K α] {nα nβ : Nat} [dα : PyD K α nα] [iβ : Py K β] [dβ : PyD K β nβ]
theorem dp_all {g h : Hp} (e : Same g h) : ∀ {vs : List V} {xs : List α}, Paired (iα.R g) vs xs → DpAll K h vs (xs.map dα.d)
  | _, _, .nil => .nil
  | _, _, .cons r t => .cons (dα.dp e r) (dp_all e t)
theorem lay_all : ∀ {xs : List α}, (∀ x ∈ xs, dα.ok x) → PyData.canLayAll0 (xs.map dα.d) = true
  | [], _ => rfl
  | x :: xs, h => by
    show ((dα.d x).canLay0 && PyData.canLayAll0 (xs.map dα.d)) = true
    rw [dα.lay (h x List.mem_cons_self), lay_all fun y hy => h y (List.mem_cons_of_mem _ hy)]; rfl
theorem deep_all : ∀ {xs : List α}, PyData.depthAll (xs.map dα.d) ≤ nα
  | [] => Nat.zero_le _
  | x :: xs => Nat.max_le.mpr ⟨dα.deep x, deep_all⟩
theorem eq_all : ∀ {xs ys : List α}, PyData.eqvAll (xs.map dα.d) (ys.map dα.d) = true ↔ xs = ys
  | [], [] => by show true = true ↔ _; simp
  | [], y :: ys => by show false = true ↔ _; simp
  | x :: xs, [] => by show false = true ↔ _; simp
  | x :: xs, y :: ys => by
    show (PyData.eqv (dα.d x) (dα.d y) && PyData.eqvAll (xs.map dα.d) (ys.map dα.d)) = true ↔ _
    rw [Bool.and_eq_true, dα.eq, eq_all]
    simp
instance : PyD K (List α) (nα + 1) where
  d xs := .list (xs.map dα.d)
  ok xs := ∀ x ∈ xs, dα.ok x
  dp e r := by obtain ⟨a, vs, rfl, q, p⟩ := r; exact .lst (e.seq q) (dp_all e p)
  lay h := lay_all h
  deep xs := Nat.succ_le_succ deep_all
  eq := eq_all
theorem tup_eq {x y : Tup α} : x.l = y.l ↔ x = y := by cases x; cases y; simp
instance : PyD K (Tup α) (nα + 1) where
  d xs := .tuple (xs.l.map dα.d)
  ok xs := ∀ x ∈ xs.l, dα.ok x
  dp e r := by obtain ⟨a, vs, rfl, q, p⟩ := r; exact .tup (same_seqT e q) (dp_all e p)
  lay h := lay_all h
  deep xs := Nat.succ_le_succ deep_all
  eq := eq_all.trans tup_eq
instance : PyD K (α × β) (max nα nβ + 1) where
  d x := .tuple [dα.d x.1, dβ.d x.2]
  ok x := dα.ok x.1 ∧ dβ.ok x.2
  dp e r := by obtain ⟨a, u, w, rfl, q, p1, p2⟩ := r; exact .tup (same_seqT e q) (.cons (dα.dp e p1) (.cons (dβ.dp e p2) .nil))
  lay {x} h := by
    show ((dα.d x.1).canLay0 && ((dβ.d x.2).canLay0 && true)) = true
    rw [dα.lay h.1, dβ.lay h.2]; rfl
  deep x := by
    have h1 := dα.deep x.1
    have h2 := dβ.deep x.2
    show max (dα.d x.1).depth (max (dβ.d x.2).depth 0) + 1 ≤ _
    omega
  eq {x y} := by
    show (PyData.eqv (dα.d x.1) (dα.d y.1) && (PyData.eqv (dβ.d x.2) (dβ.d y.2) && true)) = true ↔ _
    rw [Bool.and_true, Bool.and_eq_true, dα.eq, dβ.eq]
    cases x; cases y; simp
end
section
variable {K : PySem.W.Frag} {env : Env K} {os : Os} {ta tb te tx tl : TE} {α β γ : Type} [iα : Py K α] [iβ : Py K β] [iγ : Py K γ]
variable {b : Bs} {g h : Hp} {σ : L2.St} {D : Ends} {i j : Nat}
theorem ev_isi {x : α} {c : Bool} {T T0 : String} [t : PyT K α T0] (ha : Ev ta env os x) (hk : kitB T0 T = some c := by decide +kernel) : Ev (tCB (rIsi K) (tCons ta (tCons (tC (.ty T)) tNil))) env os c := fun {b g h σ Q} s q =>
  ha s fun v g1 h1 l1 r1 => ⟨v, .ty T, _, _, c, rfl, .ty T, t.ty l1.gh r1, kit_ty hk, q _ _ _ l1 rfl⟩
theorem shaped_of {n : Nat} [d : PyD K α n] {x : α} (h : d.ok x) (hd : n ≤ 64) : SeqAt.shaped (d.d x) = true := by
  unfold SeqAt.shaped
  rw [d.lay h, decide_eq_true (Nat.le_trans (d.deep x) hd)]; rfl
theorem ev_eqD {n : Nat} [d : PyD K α n] {x y : α} {c : Bool} (ha : Ev ta env os x) (hb : Ev tb env os y) (hc : c = true ↔ x = y) (ox : d.ok x := by first | exact trivial | exact ⟨trivial, trivial⟩ | exact fun _ _ => trivial | exact fun _ _ => ⟨trivial, trivial⟩) (oy : d.ok y := by first | exact trivial | exact ⟨trivial, trivial⟩ | exact fun _ _ => trivial | exact fun _ _ => ⟨trivial, trivial⟩) (hd : n ≤ 64 := by decide) : Ev (tOp (rEqD K) ta tb) env os c := fun {b g h σ Q} s q =>
  ha s fun v g1 h1 l1 r1 => hb (s.le l1) fun w g2 h2 l2 r2 => by
    have e : PyData.eqv (d.d x) (d.d y) = c := by
      cases c with
      | true => exact d.eq.mpr (hc.mp rfl)
      | false =>
        cases q : PyData.eqv (d.d x) (d.d y) with
        | false => rfl
        | true => exact (hc.mpr (d.eq.mp q)).symm ▸ rfl
    exact ⟨_, _, d.dp (l2.gg.trans l2.gh) r1, d.dp l2.gh r2, shaped_of ox hd, shaped_of oy hd, by rw [e]; exact q _ _ _ (l1.trans l2) rfl⟩
theorem ev_neD {n : Nat} [d : PyD K α n] {x y : α} {c : Bool} (ha : Ev ta env os x) (hb : Ev tb env os y) (hc : c = true ↔ x = y) (ox : d.ok x := by first | exact trivial | exact ⟨trivial, trivial⟩ | exact fun _ _ => trivial | exact fun _ _ => ⟨trivial, trivial⟩) (oy : d.ok y := by first | exact trivial | exact ⟨trivial, trivial⟩ | exact fun _ _ => trivial | exact fun _ _ => ⟨trivial, trivial⟩) (hd : n ≤ 64 := by decide) : Ev (tOp (rNeD K) ta tb) env os (!c) := fun {b g h σ Q} s q =>
  ha s fun v g1 h1 l1 r1 => hb (s.le l1) fun w g2 h2 l2 r2 => by
    have e : PyData.eqv (d.d x) (d.d y) = c := by
      cases c with
      | true => exact d.eq.mpr (hc.mp rfl)
      | false =>
        cases q : PyData.eqv (d.d x) (d.d y) with
        | false => rfl
        | true => exact (hc.mpr (d.eq.mp q)).symm ▸ rfl
    exact ⟨_, _, d.dp (l2.gg.trans l2.gh) r1, d.dp l2.gh r2, shaped_of ox hd, shaped_of oy hd, by rw [e]; exact q _ _ _ (l1.trans l2) rfl⟩
/-- a pair, looked at as a tuple of items that are alike -/
theorem ev_tupP {x : α × α} (ha : Ev ta env os x) : Ev ta env os (Tup.mk [x.1, x.2]) := fun {b g h σ Q} s q =>
  ha s fun v g1 h1 l1 r1 => q v g1 h1 l1 (by
    obtain ⟨a, u, w, rfl, h3, h4, h5⟩ := r1
    exact ⟨a, [u, w], rfl, h3, .cons h4 (.cons h5 .nil)⟩)
/-- a list that stands as an object of its own: new, or owned -/
def EvH (te : TE) (env : Env K) (os : Os) (xs : List α) : Prop :=
  ∀ {b : Bs} {g h : Hp} {σ : L2.St} {Q : VK}, S0 b g h σ env os → (∀ l vs g' h', Le g h g' h' → h' l = some (.lst vs) → Paired (iα.R g') vs xs → Q (.ref l) h') → te σ h Q
theorem EvN.held {xs : List α} (hn : EvN te env os xs) : EvH te env os xs := fun {b g h σ Q} s q =>
  hn s fun l vs g1 h1 l1 hl p => q l vs g1 _ ⟨l1.gg, fun a o z => by
    have := l1.hh a o z
    rw [upd_ne (ne_of_none this hl)]; exact this, fun a o z => by
    have := l1.gh a o z
    rw [upd_ne (ne_of_none this hl)]; exact this, l1.new⟩ upd_same p
theorem eh_own {m : Nat} {l : Addr} {xs : List α} (hx : env[i]? = some (.val V inferInstance (V.ref l))) (ho : os[m]? = some (l, Own.lst K xs)) : EvH (tVar i) env os xs := fun {b g h σ Q} s q =>
  ev_var hx s fun v g1 h1 l1 r1 => by
    cases r1
    obtain ⟨vs, e, p⟩ := own_seq (s.le l1) ho
    exact q l vs g1 h1 l1 e p
theorem en_slL {xs : List α} {lo hi : Option Int} {tl th : TO} (ha : Ev ta env os xs) (h1 : EvO tl env os lo) (h2 : EvO th env os hi) : EvN (tSl (rSlL K) ta tl th) env os (cut xs lo hi) := fun {b g h' σ Q} s q =>
  ha s fun v g1 h3 l1 r1 => h1 (s.le l1) fun g2 h4 l2 => h2 ((s.le l1).le l2) fun g3 h5 l3 => by
    obtain ⟨a, vs, rfl, h6, h7⟩ := r1
    have l := l2.trans l3
    exact ⟨a, vs, rfl, (l.gg.trans l.gh).seq h6, fun p hp => q p (cutV vs lo hi) g3 h5 (l1.trans l) hp (pr_mono l.gg (paired_cut h7))⟩
theorem en_cat {xs ys : List α} (ha : EvH ta env os xs) (hb : EvH tb env os ys) (hl : xs.length + ys.length ≤ 1000000) : EvN (tOp rCat ta tb) env os (xs ++ ys) := fun {b g h σ Q} s q =>
  ha s fun l vs g1 h1 l1 e1 p1 => hb (s.le l1) fun l' ws g2 h2 l2 e2 p2 =>
    ⟨l, l', vs, ws, rfl, rfl, l2.hh _ _ e1, e2, by rw [p1.length, p2.length]; exact Nat.le_trans hl (by decide), fun p hp => q p _ g2 h2 (l1.trans l2) hp (paired_append (pr_mono l2.gg p1) p2)⟩
/-- x.extend(e) -/
theorem st_extend {m : Nat} {l : Addr} {xs ys : List α} (s : S0 b g h σ env os) (hx : env[i]? = some (.val V inferInstance (V.ref l))) (ho : os[m]? = some (l, Own.lst K xs)) (hl : xs.length + ys.length ≤ 1000000) (e : EvH te env os ys)
    (k : ∀ g' h', S0 b g' h' σ env (os.set m (l, Own.lst K (xs ++ ys))) → D.nx σ h') : tDrop (tBM K "list" rExtend (tVar i) (tCons te tNil)) D σ h := by
  unfold tDrop tBM
  refine ev_var hx s fun v g1 h1 l1 r1 => ?_
  cases r1
  have s1 := s.le l1
  obtain ⟨vs, e1, p1⟩ := own_seq s1 ho
  refine ⟨.inl ⟨rfl, vs, SqL.of e1⟩, e s1 fun l' zs g2 h2 l2 ez pz => ?_⟩
  have s2 := s1.le l2
  obtain ⟨ws, e2, p2⟩ := own_seq s2 ho
  exact ⟨l, l', ws, zs, rfl, rfl, e2, ez, by rw [p2.length, pz.length]; exact Nat.le_trans hl (by decide), k g2 _ (s2.put (w' := Own.lst K (xs ++ ys)) ho ⟨_, rfl, paired_append p2 pz⟩)⟩
/-! ### in -/
theorem inV_ints {x : Int} {xs : List Int} : inV (.int x) (xs.map V.int) = decide (x ∈ xs) := by
  unfold inV
  rw [List.any_map]
  by_cases h : x ∈ xs
  · rw [decide_eq_true h]
    exact List.any_eq_true.mpr ⟨x, h, by show (x == x) = true; exact beq_self_eq_true x⟩
  · rw [decide_eq_false h]
    exact List.any_eq_false.mpr fun y hy => by
      show ¬ (y == x) = true
      rw [beq_iff_eq]
      rintro rfl
      exact h hy
theorem flat_ints {xs : List Int} : (xs.map V.int).all flatV = true := by rw [List.all_map]; exact List.all_eq_true.mpr fun _ _ => rfl
theorem ev_inTI {x : Int} {xs : Tup Int} (ha : Ev ta env os x) (hb : Ev tb env os xs) : Ev (tOp (rIn K false) ta tb) env os (decide (x ∈ xs.l)) := fun {b g h σ Q} s q =>
  ha s fun v g1 h1 l1 r1 => hb (s.le l1) fun w g2 h2 l2 r2 => by
    cases r1
    obtain ⟨a, vs, rfl, h3, h4⟩ := r2
    have e := paired_eq h4
    subst e
    exact ⟨a, _, rfl, .inr (same_seqT l2.gh h3), rfl, flat_ints, by rw [inV_ints]; exact q _ _ _ (l1.trans l2) rfl⟩
theorem ev_niTI {x : Int} {xs : Tup Int} (ha : Ev ta env os x) (hb : Ev tb env os xs) : Ev (tOp (rIn K true) ta tb) env os (!decide (x ∈ xs.l)) := fun {b g h σ Q} s q =>
  ha s fun v g1 h1 l1 r1 => hb (s.le l1) fun w g2 h2 l2 r2 => by
    cases r1
    obtain ⟨a, vs, rfl, h3, h4⟩ := r2
    have e := paired_eq h4
    subst e
    exact ⟨a, _, rfl, .inr (same_seqT l2.gh h3), rfl, flat_ints, by rw [inV_ints]; exact q _ _ _ (l1.trans l2) rfl⟩
end
end Lw
/-! The rules that name the written part, with its name told: they stand within a comprehension's block too. -/
namespace Lw
open PySem PySem.Spec PyProof.Rows L2
section
variable {X : Cx} (K : PySem.W.Frag)
theorem ix_listK (h : X.K = K := by rfl) : IxR X (rIxL K) := h ▸ ix_list
theorem ix_tupK (h : X.K = K := by rfl) : IxR X (rIxT K) := h ▸ ix_tup
theorem sl_listK (h : X.K = K := by rfl) : SlR X (rSlL K) := h ▸ sl_list
theorem sl_tupAK (h : X.K = K := by rfl) : SlR X (rSlA K) := h ▸ sl_tupA
theorem op_catAK (h : X.K = K := by rfl) : OpR X (binaryOp .Add) (rCatA K) := h ▸ op_catA
theorem op_repTAK (h : X.K = K := by rfl) : OpR X (binaryOp .Mult) (rRepA K) := h ▸ op_repTA
theorem len_seqK (h : X.K = K := by rfl) : CallR X (.builtin "len") (fun xs H Q => ∃ p ys, xs = [.ref p] ∧ (SqL K H p ys ∨ SqT K H p ys) ∧ Q (.int ys.length) H) := h ▸ call_len_seq
theorem list_ofK (h : X.K = K := by rfl) : CallR X (.type "list") (fun xs H Q => ∃ p ys, xs = [.ref p] ∧ (SqL K H p ys ∨ SqT K H p ys) ∧ ∀ l, H l = none → Q (.ref l) (upd H l (.lst ys))) := h ▸ call_list_of
theorem tuple_ofK (h : X.K = K := by rfl) : CallR X (.type "tuple") (fun xs H Q => ∃ p ys, xs = [.ref p] ∧ ((SqL K H p ys ∧ ∀ l, H l = none → Q (.ref l) (upd H l (.tup ys))) ∨ (SqT K H p ys ∧ Q (.ref p) H))) := h ▸ call_tuple_of
theorem sumK (hc : X.calm = true := by rfl) (h : X.K = K := by rfl) : CallR X (.builtin "sum") (rSum K) := h ▸ cr_sum hc
theorem sumTK (hc : X.calm = true := by rfl) (h : X.K = K := by rfl) : CallR X (.builtin "sum") (rSumT K) := h ▸ cr_sumT hc
theorem anyK (hc : X.calm = true := by rfl) (h : X.K = K := by rfl) : CallR X (.builtin "any") (rAny K) := h ▸ cr_any hc
theorem allK (hc : X.calm = true := by rfl) (h : X.K = K := by rfl) : CallR X (.builtin "all") (rAll K) := h ▸ cr_all hc
theorem in_seqK (h : X.K = K := by rfl) : OpR X (compareOp .In) (rIn K false) := h ▸ op_in_seq
theorem ni_seqK (h : X.K = K := by rfl) : OpR X (compareOp .NotIn) (rIn K true) := h ▸ op_notIn_seq
theorem eqDK (hu : X.A.units + 64 < cLine) (h : X.K = K := by rfl) : OpR X (compareOp .Eq) (rEqD K) := h ▸ op_eqD hu
theorem neDK (hu : X.A.units + 64 < cLine) (h : X.K = K := by rfl) : OpR X (compareOp .NotEq) (rNeD K) := h ▸ op_neD hu
theorem isiK (h : X.K = K := by rfl) : CallR X (.builtin "isinstance") (rIsi K) := h ▸ call_isi
theorem pget_listK (h : X.K = K := by rfl) : PGet X (rIxL K) := h ▸ pget_list
theorem pi_listK {tg l : Expr} {tl : TE} (hl : PE X l tl) (h : X.K = K := by rfl) : PI X tg l (iList K tl) := h ▸ pi_list hl
theorem pi_tupK {tg l : Expr} {tl : TE} (hl : PE X l tl) (h : X.K = K := by rfl) : PI X tg l (iTup K tl) := h ▸ pi_tup hl
theorem pt_truthK {a : Expr} {ta : TE} (ha : PE X a ta) (he : ∀ whole, isTrue a X.env whole = (do let v ← whole; standAt a.pos; holding [v] (truthy v)) := by intro _; rfl) (h : X.K = K := by rfl) : PT X a (fun σ H Q => ta σ H fun x H' => ∃ k, TruV K x H' k ∧ Q k H') := h ▸ pt_truth ha he
theorem pg_tupK {es : List Expr} {k : Nat} {t : TGs} {n : Nat} {pos : Pos} (hc : X.calm = true) (hp : PGs X es t) (hn : (assignEach es X.env).length = n := by rfl) (hst : (assignEach es X.env).findIdx? (·.1) = none := by rfl) (h : X.K = K := by rfl) : PG X (.Tuple es k pos) (gTup K n t) := h ▸ pg_tup hc hp hn hst
end
section
variable {K : PySem.W.Frag} {env : Env K} {os : Os} {ta tb te tx tl : TE} {α β γ : Type} [iα : Py K α] [iβ : Py K β] [iγ : Py K γ]
theorem atI_getD {xs : List α} {d : α} {i : Int} (h0 : 0 ≤ i) (h1 : i < xs.length) : atI xs i = some (xs.getD i.toNat d) := by
  have h2 : i.toNat < xs.length := by omega
  unfold atI
  rw [ixN_eq h0 h1]
  show xs[i.toNat]? = _
  rw [List.getD_eq_getElem?_getD, List.getElem?_eq_getElem h2]; rfl
theorem ev_ixLD {xs : List α} {i : Int} (d : α) (ha : Ev ta env os xs) (hb : Ev tb env os i) (h0 : 0 ≤ i) (h1 : i < xs.length) : Ev (tOp (rIxL K) ta tb) env os (xs.getD i.toNat d) := ev_ixL ha hb (atI_getD h0 h1)
theorem ev_ixTD {xs : Tup α} {i : Int} (d : α) (ha : Ev ta env os xs) (hb : Ev tb env os i) (h0 : 0 ≤ i) (h1 : i < xs.l.length) : Ev (tOp (rIxT K) ta tb) env os (xs.l.getD i.toNat d) := ev_ixT ha hb (atI_getD h0 h1)
end
end Lw
namespace K34
open PySem PySem.Spec PyProof.Rows L2 Lw RZ
variable {P : Program} {w : World} {K : PySem.W.Frag} {mg : Str → Option Value} {base : Heap}
def a_common (K : PySem.W.Frag) : List (Slot K) → (Int → Prop) → Prop := fun xs P => ∃ l r : Int, xs = [sv l, sv r] ∧ (0 ≤ l ∧ 0 ≤ r) ∧ P ((Nat.gcd l.natAbs r.natAbs : Nat) : Int)
theorem sc_law_common : FnScope ["left", "right"] ["left", "right"] (defScope (topS 15)) := ⟨rfl, rfl, rfl, by decide +kernel, rfl, by decide +kernel, by decide +kernel⟩
theorem gcd_step {l r : Int} (h0 : 0 ≤ l) (h1 : 0 < r) : Nat.gcd r.natAbs (l % r).natAbs = Nat.gcd l.natAbs r.natAbs := by
  have e : (l % r).natAbs = l.natAbs % r.natAbs := by
    have h2 := Int.emod_nonneg l (show r ≠ 0 by omega)
    have h3 : ((l % r).natAbs : Int) = ((l.natAbs % r.natAbs : Nat) : Int) := by
      rw [Int.natAbs_of_nonneg h2, Int.natCast_emod, Int.natAbs_of_nonneg h0, Int.natAbs_of_nonneg (by omega)]
    exact Int.ofNat.inj h3
  rw [e, Nat.gcd_comm r.natAbs, ← Nat.gcd_rec, Nat.gcd_comm]
theorem ok_law_common (E : FX K mg) : Cal P w K mg base "_law_common" 1 ["left", "right"] (SpR K (a_common K)) := by
  refine E.cal 11 11 (st := topS 15) rfl rfl (fun _ _ _ _ _ _ us hl => match us, hl with | [_, _], _ => rfl) fun f fd F => okRD F sc_law_common (fun xs P' h => ?_) (fun cdv Ar outer s0 H0 E0 hr xs P' h => ?_)
  · obtain ⟨_, _, rfl, _⟩ := h; rfl
  · obtain ⟨left, right, rfl, ⟨h1, h2⟩, hP⟩ := h
    refine ⟨_, (pss_cons (ps_while PassesOwn.never (pt_cmpR op_gt (pv 1) pe_int (nomark _))
      (pss_one (ps_par (i := 0) (j := 1) (by rfl) sc_law_common.nd rfl rfl (by decide) rfl rfl (pa_cons (pv 1) (pa_cons (pe_op op_mod (pe_callTy call_int1 (by rfl) (E.free 31) (by decide +kernel) (pa_cons (pv 0) pa_nil)) (pv 1)) pa_nil)) (by rfl))))
    (pss_one (ps_ret (pv 0)))), fun g σ Q s fin => ?_⟩
    -- while right > 0:
    refine st_while s (fun m e o => ∃ l r : Int, e = [sv l, sv r] ∧ 0 ≤ l ∧ 0 ≤ r ∧ m = r.toNat ∧ Nat.gcd l.natAbs r.natAbs = Nat.gcd left.natAbs right.natAbs) right.toNat ⟨left, right, rfl, h1, h2, rfl, rfl⟩ (fun m e o g h σ hI s => ?_)
    obtain ⟨l, r, rfl, hl, hr', rfl, hg⟩ := hI
    refine ⟨_, (et_test (ev_ib (ev_var rfl) ev_int)), fun hc g h N s hN => ?_, fun hc g h s => ?_⟩
    · have hc := of_decide_eq_true hc
      -- left, right = (right, int(left) % right)
      refine st_par s (ev_var rfl) (ev_iC (ev_intI (ev_var rfl)) (ev_var rfl) (by exact hc)) (fun v w g h s => ?_)
      have := Int.emod_lt_of_pos l hc
      have h3 := Int.emod_nonneg l (show r ≠ 0 by omega)
      exact hN _ _ _ _ _ _ (by omega) ⟨r, l % r, rfl, hr', h3, rfl, by rw [gcd_step hl hc, hg]⟩ s
    · have hc := of_decide_eq_false hc
      dsimp only
      -- return left
      refine st_ret s (ev_var rfl) ?_
      refine fun v g h s r' => fin v _ g h _ _ _ ?_ s r'
      have e : r = 0 := by omega
      subst e
      rw [← hg] at hP
      simp only [Int.natAbs_zero, Nat.gcd_zero_right] at hP
      rwa [Int.natAbs_of_nonneg hl] at hP
theorem sc_law_lowest : FnScope ["numerator", "denominator", "common"] ["numerator", "denominator"] (defScope (topS 16)) := ⟨rfl, rfl, rfl, by decide +kernel, rfl, by decide +kernel, by decide +kernel⟩
theorem ok_law_lowest (E : FX K mg) : Cal P w K mg base "_law_lowest" 2 ["numerator", "denominator"] (SpR K (a_reduced K)) := by
  refine E.cal 12 12 (st := topS 16) rfl rfl (fun _ _ _ _ _ _ us hl => match us, hl with | [_, _], _ => rfl) fun f fd F => okRD F sc_law_lowest (fun xs P' h => ?_) (fun cdv Ar outer s0 H0 E0 hr xs P' h => ?_)
  · obtain ⟨_, _, rfl, _⟩ := h; rfl
  · obtain ⟨numerator, denominator, rfl, ⟨h1, h2, h3⟩, hP⟩ := h
    refine ⟨_, (pss_cons (ps_set (i := 2) sc_law_lowest.nd rfl (.inl rfl) (pe_c (ok_law_common E) (hr.mono (by decide)) rfl (pa_cons (pv 0) (pa_cons (pv 1) pa_nil))))
    (pss_one (ps_ret (pe_tup (pa_cons (pe_op op_fdivW (pv 0) (pv 2)) (pa_cons (pe_op op_fdivW (pv 1) (pv 2)) pa_nil)))))), fun g σ Q s fin => ?_⟩
    -- common = _law_common(numerator, denominator)
    refine st_set s (ev_call (ea_cons (ev_var rfl) (ea_cons (ev_var rfl) ea_nil)) ⟨_, _, rfl, ⟨h1, by omega⟩, rfl⟩) (fun v g h s => ?_)
    -- return (numerator // common, denominator // common)
    have cd : ∀ x, CDivW x ((Nat.gcd numerator.natAbs denominator.natAbs : Nat) : Int) := fun x => wide_div (gcd_pos h2) (b := 4000) (by rw [Int.natAbs_natCast]; exact Nat.lt_of_le_of_lt (gcd_le h2) h3) (by decide) (by decide)
    refine st_ret s (ev_pair (ev_iC (ev_var rfl) (ev_var rfl) (cd _)) (ev_iC (ev_var rfl) (ev_var rfl) (cd _))) ?_
    exact fun v g h s r => fin v _ g h _ _ _ hP s r
def a_isp (K : PySem.W.Frag) : List (Slot K) → (Bool → Prop) → Prop := fun xs P => ∃ a e : Int × Int, xs = [sv a, sv e] ∧ P (decide (a = e))
theorem sc_law_is_pair : FnScope ["actual", "expected", "number"] ["actual", "expected"] (defScope (topS 17)) := ⟨rfl, rfl, rfl, by decide +kernel, rfl, by decide +kernel, by decide +kernel⟩
theorem ok_law_is_pair (E : FX K mg) : Cal P w K mg base "_law_is_pair" 1 ["actual", "expected"] (SpR K (a_isp K)) := by
  refine E.cal 13 13 (st := topS 17) rfl rfl (fun _ _ _ _ _ _ us hl => match us, hl with | [_, _], _ => rfl) fun f fd F => okRD F sc_law_is_pair (fun xs P' h => ?_) (fun cdv Ar outer s0 H0 E0 hr xs P' h => ?_)
  · obtain ⟨_, _, rfl, _⟩ := h; rfl
  · obtain ⟨actual, expected, rfl, hP⟩ := h
    refine ⟨_, (pss_cons (ps_if (PW.pt (pw_or (pt_not (pt_val (pe_callB call_isi (by rfl) (E.free 32) (by decide +kernel) (pa_cons (pv 0) (pa_cons (pe_bltn (v := .ty "tuple") (u := .type "tuple") (by rfl) (E.free 25) (by decide +kernel) rfl) pa_nil))))) (pw_or1 (pt_cmpR op_ne (pe_callB call_len_seq (by rfl) (E.free 29) (by decide +kernel) (pa_cons (pv 0) pa_nil)) pe_int (nomark _))))) (pss_one (ps_ret pe_bl)) pss_nil)
    (pss_cons (ps_for PassesOwn.never rfl (pi_tup (pv 0)) (pg_name (i := 2) sc_law_is_pair.nd rfl (.inl rfl))
      (pss_one (ps_if (PW.pt (pw_or (pt_not (pt_val (pe_callB call_isi (by rfl) (E.free 32) (by decide +kernel) (pa_cons (pv 2) (pa_cons (pe_bltn (v := .ty "int") (u := .type "int") (by rfl) (E.free 31) (by decide +kernel) rfl) pa_nil))))) (pw_or1 (pt_val (pe_callB call_isi (by rfl) (E.free 32) (by decide +kernel) (pa_cons (pv 2) (pa_cons (pe_bltn (v := .ty "bool") (u := .type "bool") (by rfl) (E.free 33) (by decide +kernel) rfl) pa_nil))))))) (pss_one (ps_ret pe_bl)) pss_nil)))
    (pss_one (ps_ret (pe_cmpR (op_eqD hr.units) (pv 0) (pv 1) (nomark _)))))), fun g σ Q s fin => ?_⟩
    -- if not isinstance(actual, tuple) or len(actual) != 2:
    refine st_if s (et_or (et_not (et_B (ev_isi (c := true) (x := actual) (ev_var rfl)))) fun _ => (et_test (ev_neI (ev_lenT (ev_tupP (ev_var rfl))) ev_int))) (fun hc g h s => ?_) (fun hc g h s => ?_)
    · cases hc
    · dsimp only
      -- for number in actual:
      refine st_for_tup tgt_name s (ev_tupP (ev_var rfl)) (fun n e o => ∃ s2, e = [sv actual, sv expected, s2]) ⟨_, rfl⟩ (fun n x hx c hls e o g h σ N hI back s hN => ?_) (fun e o g h σ hI s => ?_)
      · obtain ⟨s2, rfl⟩ := hI
        -- if not isinstance(number, int) or isinstance(number, bool):
        refine st_if s (et_or (et_not (et_B (ev_isi (c := true) (x := x) (ev_var rfl)))) fun _ => (et_B (ev_isi (c := false) (x := x) (ev_var rfl)))) (fun hc g h s => ?_) (fun hc g h s => ?_)
        · cases hc
        · exact hN _ _ _ _ _ ⟨_, rfl⟩ s
      · obtain ⟨s2, rfl⟩ := hI
        dsimp only
        -- return actual == expected
        refine st_ret s (ev_eqD (ev_var rfl) (ev_var rfl) decide_eq_true_iff) ?_
        exact fun v g h s r => fin v _ g h _ _ _ hP s r
def ordersF : Nat → List (List Int)
  | 0 => [[]]
  | n + 1 => (ordersF n).flatMap fun o => (upto (o.length + 1)).map fun k => o.take k.toNat ++ [(n : Int)] ++ o.drop k.toNat
theorem ord_len : ∀ n, ∀ o ∈ ordersF n, o.length = n
  | 0, o, h => by rw [show ordersF 0 = [[]] from rfl, List.mem_singleton] at h; rw [h]; rfl
  | n + 1, o, h => by
    rw [show ordersF (n + 1) = (ordersF n).flatMap fun o => (upto (o.length + 1)).map fun k => o.take k.toNat ++ [(n : Int)] ++ o.drop k.toNat from rfl, List.mem_flatMap] at h
    obtain ⟨o', h1, h2⟩ := h
    rw [List.mem_map] at h2
    obtain ⟨k, hk, rfl⟩ := h2
    rw [mem_upto] at hk
    have := ord_len n o' h1
    simp
    omega
theorem ordN : ∀ n, n ≤ 6 → (ordersF n).length ≤ 720 ∧ 0 < (ordersF n).length := by decide +kernel
def a_orders (K : PySem.W.Frag) : List (Slot K) → (List (List Int) → Prop) → Prop := fun xs P => ∃ n : Nat, xs = [sv (n : Int)] ∧ n ≤ 6 ∧ P (ordersF n)
theorem sc_law_orders : FnScope ["count", "orders", "party", "longer", "order", "k"] ["count"] (defScope (topS 19)) := ⟨rfl, rfl, rfl, by decide +kernel, rfl, by decide +kernel, by decide +kernel⟩
theorem flatMap_take {α β : Type} {f : α → List β} {xs : List α} {n : Nat} {x : α} (h : xs[n]? = some x) : (xs.take (n + 1)).flatMap f = (xs.take n).flatMap f ++ f x := by
  rw [List.take_add_one, h, List.flatMap_append]; simp
theorem ok_law_orders (E : FX K mg) : Cal P w K mg base "_law_orders" 1 ["count"] (SpR K (a_orders K)) := by
  refine E.cal 15 15 (st := topS 19) rfl rfl (fun _ _ _ _ _ _ us hl => match us, hl with | [_], _ => rfl) fun f fd F => okRD F sc_law_orders (fun xs P' h => ?_) (fun cdv Ar outer s0 H0 E0 hr xs P' h => ?_)
  · obtain ⟨_, rfl, _⟩ := h; rfl
  · obtain ⟨n, rfl, hn, hP⟩ := h
    refine ⟨_, (pss_cons (ps_set (i := 1) sc_law_orders.nd rfl (.inl rfl) (pe_lst (pa_cons (pe_lst pa_nil) pa_nil)))
    (pss_cons (ps_for PassesOwn.never rfl (pi_range1 rfl (E.free 27) (pa_cons (pv 0) pa_nil)) (pg_name (i := 2) sc_law_orders.nd rfl (.inr rfl))
      (pss_cons (ps_set (i := 3) sc_law_orders.nd rfl (.inl rfl) (pe_lst pa_nil))
    (pss_cons (ps_for PassesOwn.never rfl (pi_list (pv 1)) (pg_name (i := 4) sc_law_orders.nd rfl (.inr rfl))
      (pss_one (ps_expr (pe_bm PySem.F.plainAttrs_list PySem.F.slot_list_extend PySem.F.type_list_extend mt_extend (pv 3) (pa_cons (pe_lc (own := [("k", 5)]) (g := gName 5) (tt := tYes) rfl sc_law_orders.nd (pi_range1 rfl (E.free 27) (pa_cons (pe_op op_add (pe_callB call_len_seq (by rfl) (E.free 29) (by decide +kernel) (pa_cons (pv 4) pa_nil)) pe_int) pa_nil)) (blkOk_by (N := ["count", "orders", "party", "longer", "order", "k"]) (sc := defScope (topS 19)) (own := [("k", 5)]) (by decide +kernel)) (fun _ _ _ _ _ => (pg_name (i := 5) sc_law_orders.nd rfl (Or.inl rfl))) (fun _ _ _ _ _ => pts_nil) (fun _ _ _ _ _ => (pe_op op_cat (pe_op op_cat (pe_slice (sl_listK K) (pv 4) po_none (po_some (pv 5))) (pe_lst (pa_cons (pv 2) pa_nil))) (pe_slice (sl_listK K) (pv 4) (po_some (pv 5)) po_none)))) pa_nil)))))
    (pss_one (ps_set (i := 1) sc_law_orders.nd rfl (.inl rfl) (pv 3))))))
    (pss_one (ps_ret (pv 1))))), fun g σ Q s fin => ?_⟩
    -- orders = [[]]
    refine st_set s (ev_lstL (el_cons (ev_lstL (el_nil (α := Int))) el_nil)) (fun v g h s => ?_)
    -- for party in range(count):
    refine st_for_range s (ev_var rfl) (by omega) (by omega) (fun m e o => ∃ s2 s3 s4 s5, e = [sv (n : Int), sv (ordersF m), s2, s3, s4, s5] ∧ o = [] ∧ m ≤ n) ⟨_, _, _, _, rfl, rfl, Nat.zero_le _⟩ (fun m hm c hls e o g h σ N hI back s hN => ?_) (fun e o g h σ hI s => ?_)
    · obtain ⟨s2, s3, s4, s5, rfl, rfl, hmn⟩ := hI
      have hm6 : m < 6 := by omega
      -- longer = []
      refine st_setN s (en_lst (el_nil (α := List Int)) (by decide)) (fun l g h s => ?_)
      -- for order in orders:
      refine st_for_list tgt_name s (ev_var rfl) (fun k e o => ∃ s4 s5, e = [sv (n : Int), sv (ordersF m), sv ((m : Nat) : Int), sv (V.ref l), s4, s5] ∧ o = [(l, Own.lst K (((ordersF m).take k).flatMap fun o => (upto (o.length + 1)).map fun k => o.take k.toNat ++ [(m : Int)] ++ o.drop k.toNat))]) ⟨_, _, rfl, rfl⟩ (fun k x hx c' hls e o g h σ N' hI back' s hN' => ?_) (fun e o g h σ hI s => ?_)
      · obtain ⟨s4', s5', rfl, rfl⟩ := hI
        have hxl := ord_len m x (List.mem_of_getElem? hx)
        have hb : ∀ y ∈ upto ((x.length : Int) + 1).toNat, cut x none (some y) = x.take y.toNat ∧ cut x (some y) none = x.drop y.toNat := fun y hy => by
          rw [mem_upto] at hy
          exact ⟨cut_to hy.1 (by omega), cut_from hy.1 (by omega)⟩
        have hsz : (((ordersF m).take k).flatMap fun o => (upto (o.length + 1)).map fun k => o.take k.toNat ++ [(m : Int)] ++ o.drop k.toNat).length ≤ 720 := by
          have h1 : ((ordersF m).take k ++ (ordersF m).drop k) = ordersF m := List.take_append_drop _ _
          have h2 := (ordN (m + 1) (by omega)).1
          rw [show ordersF (m + 1) = (ordersF m).flatMap fun o => (upto (o.length + 1)).map fun k => o.take k.toNat ++ [(m : Int)] ++ o.drop k.toNat from rfl, ← h1, List.flatMap_append, List.length_append] at h2
          omega
        -- longer.extend([order[:k] + [party] + order[k:] for k in range(len(order) + 1)])
        refine st_extend (m := 0) s rfl rfl (ys := (upto ((x.length : Int) + 1).toNat).map fun y => cut x none (some y) ++ [(m : Int)] ++ cut x (some y) none) (by simp only [List.length_map, upto_len]; omega)
          (EvN.held (EvN.all (en_lcR (ev_i2 (ev_lenL (ev_var rfl)) ev_int) (fun _ _ => et_yes) (fun y hy _ => EvN.ev (en_cat (EvN.held (en_cat (EvN.held (en_slL (ev_var rfl) eo_none (eo_some (ev_var rfl)))) (EvN.held (en_lst (el_cons (ev_var rfl) el_nil) (by simp))) ?_)) (EvN.held (en_slL (ev_var rfl) (eo_some (ev_var rfl)) eo_none)) ?_)) (by omega) (by omega)))) (fun g h s => ?_)
        · rw [(hb y hy).1]; simp; omega
        · rw [(hb y hy).1, (hb y hy).2]; simp; omega
        · refine hN' _ _ _ _ _ ⟨_, _, rfl, ?_⟩ s
          show [(l, Own.lst K (_ ++ _))] = _
          rw [flatMap_take hx]
          have e1 : ((x.length : Int) + 1).toNat = x.length + 1 := by omega
          rw [e1] at hb ⊢
          congr 4
          apply List.map_congr_left
          intro y hy
          rw [(hb y hy).1, (hb y hy).2]
      · obtain ⟨s4', s5', rfl, rfl⟩ := hI
        dsimp only
        -- orders = longer
        rw [List.take_length] at s
        obtain ⟨g', s⟩ := s.freeze (i := 3) (m := 0) rfl rfl (by rw [hls])
        refine st_set s (ev_var rfl) (fun v g h s => ?_)
        exact hN _ _ _ _ _ ⟨_, _, _, _, rfl, rfl, by omega⟩ s
    · obtain ⟨s2, s3, s4, s5, rfl, rfl, _⟩ := hI
      dsimp only
      -- return orders
      refine st_ret s (ev_var rfl) ?_
      exact fun v g h s r => fin v _ g h _ _ _ hP s r
end K34
namespace K34
open PySem PySem.Spec PyProof.Rows L2 Lw RZ
variable {P : Program} {w : World} {K : PySem.W.Frag} {mg : Str → Option Value} {base : Heap}
def maskF (n : Nat) (t : List Int) : Int := ((upto n).map fun i => t.getD i.toNat 0 * 2 ^ i.toNat).sum
def tableF (n : Nat) (told : List (Tup Int)) : List Bool := (upto (2 ^ n)).map fun G => (told.map fun t => maskF n t.l).any fun m => decide (Builtin.bitAnd m G = m)
/-- told settings of n parties -/
def TOk (n : Nat) (told : List (Tup Int)) : Prop := told.length ≤ 1000 ∧ ∀ t ∈ told, t.l.length = n ∧ ∀ x ∈ t.l, x = 0 ∨ x = 1
def a_table (K : PySem.W.Frag) : List (Slot K) → (List Bool → Prop) → Prop := fun xs P => ∃ (n : Nat) (told : List (Tup Int)), xs = [sv (n : Int), sv told] ∧ (n ≤ 6 ∧ TOk n told) ∧ P (tableF n told)
theorem sc_law_brings : FnScope ["count", "told", "masks", "levels", "i", "mask", "group"] ["count", "told"] (defScope (topS 20)) := ⟨rfl, rfl, rfl, by decide +kernel, rfl, by decide +kernel, by decide +kernel⟩
theorem ok_law_brings (E : FX K mg) : Cal P w K mg base "_law_brings" 1 ["count", "told"] (SpR K (a_table K)) := by
  refine E.cal 16 16 (st := topS 20) rfl rfl (fun _ _ _ _ _ _ us hl => match us, hl with | [_, _], _ => rfl) fun f fd F => okRD F sc_law_brings (fun xs P' h => ?_) (fun cdv Ar outer s0 H0 E0 hr xs P' h => ?_)
  · obtain ⟨_, _, rfl, _⟩ := h; rfl
  · obtain ⟨n, told, rfl, ⟨hn, ht, hto⟩, hP⟩ := h
    refine ⟨_, (pss_cons (ps_set (i := 2) sc_law_brings.nd rfl (.inr rfl) (pe_lst pa_nil))
    (pss_cons (ps_for PassesOwn.never rfl (pi_listK K (pv 1)) (pg_name (i := 3) sc_law_brings.nd rfl (.inr rfl))
      (pss_one (ps_expr (pe_bm PySem.F.plainAttrs_list PySem.F.slot_list_append PySem.F.type_list_append mt_append (pv 2) (pa_cons (pe_callB (sumK K) (by rfl) (E.free 30) (by decide +kernel) (pa_cons (pe_lc (own := [("i", 4)]) (g := gName 4) (tt := tYes) rfl sc_law_brings.nd (pi_range1 rfl (E.free 27) (pa_cons (pv 0) pa_nil)) (blkOk_by (N := ["count", "told", "masks", "levels", "i", "mask", "group"]) (sc := defScope (topS 20)) (own := [("i", 4)]) (by decide +kernel)) (fun _ _ _ _ _ => (pg_name (i := 4) sc_law_brings.nd rfl (Or.inl rfl))) (fun _ _ _ _ _ => pts_nil) (fun _ _ _ _ _ => (pe_op op_shl (pe_ix (ix_tupK K) (pv 3) (pv 4) (fun _ _ => rfl)) (pv 4)))) pa_nil)) pa_nil)))))
    (pss_one (ps_ret (pe_lc (own := [("group", 6)]) (g := gName 6) (tt := tYes) rfl sc_law_brings.nd (pi_range1 rfl (E.free 27) (pa_cons (pe_op op_shl pe_int (pv 0)) pa_nil)) (blkOk_by (N := ["count", "told", "masks", "levels", "i", "mask", "group"]) (sc := defScope (topS 20)) (own := [("group", 6)]) (by decide +kernel)) (fun _ _ _ _ _ => (pg_name (i := 6) sc_law_brings.nd rfl (Or.inr rfl))) (fun _ _ _ _ _ => pts_nil) (fun _ _ _ _ _ => (pe_callB (anyK K) (by rfl) (E.free 24) (by decide +kernel) (pa_cons (pe_lc (own := [("mask", 5)]) (g := gName 5) (tt := tYes) rfl sc_law_brings.nd (pi_listK K (pv 2)) (blkOk_by (own := [("mask", 5)]) (by rfl)) (fun _ _ _ _ _ => (pg_name (i := 5) sc_law_brings.nd rfl (Or.inl rfl))) (fun _ _ _ _ _ => pts_nil) (fun _ _ _ _ _ => (pe_cmpR op_eq (pe_op op_and (pv 5) (pv 6)) (pv 5) (nomark _)))) pa_nil)))))))), fun g σ Q s fin => ?_⟩
    -- masks = []
    refine st_setN s (en_lst (el_nil (α := Int)) (by decide)) (fun l g h s => ?_)
    -- for levels in told:
    refine st_for_list tgt_name s (ev_var rfl) (fun k e o => ∃ s3 s4 s5 s6, e = [sv (n : Int), sv told, sv (V.ref l), s3, s4, s5, s6] ∧ o = [(l, Own.lst K ((told.take k).map fun t => maskF n t.l))]) ⟨_, _, _, _, rfl, rfl⟩ (fun k x hx c hls e o g h σ N hI back s hN => ?_) (fun e o g h σ hI s => ?_)
    · obtain ⟨s3, s4, s5, s6, rfl, rfl⟩ := hI
      have hk := (List.getElem?_eq_some_iff.mp hx).1
      obtain ⟨hx1, hx2⟩ := hto x (List.mem_of_getElem? hx)
      have hb : ∀ y ∈ upto (n : Int).toNat, 0 ≤ y ∧ y < x.l.length ∧ CPow (x.l.getD y.toNat 0) y := fun y hy => by
        rw [mem_upto] at hy
        have h1 : y.toNat < x.l.length := by omega
        refine ⟨hy.1, by omega, hy.1, by omega, ?_⟩
        rw [List.getD_eq_getElem?_getD, List.getElem?_eq_getElem h1]
        rcases hx2 _ (List.getElem_mem h1) with z | z <;> (simp only [Option.getD_some]; rw [z]; decide)
      -- masks.append(sum([levels[i] << i for i in range(count)]))
      refine st_append (m := 0) s rfl rfl (Nat.lt_of_le_of_lt (m := 1000) (by simp; omega) (by decide)) (ev_sum (EvN.ev (EvN.all (en_lcR (ev_var rfl) (fun _ _ => et_yes) (fun y hy _ => (ev_iC (ev_ixTD 0 (ev_var rfl) (ev_var rfl) (hb y hy).1 (hb y hy).2.1) (ev_var rfl) (hb y hy).2.2)) (by omega) (by omega))))) (fun g h s => ?_)
      refine hN _ _ _ _ _ ⟨_, _, _, _, rfl, ?_⟩ s
      rw [List.take_add_one, hx, List.map_append]
      rfl
    · obtain ⟨s3, s4, s5, s6, rfl, rfl⟩ := hI
      dsimp only
      rw [List.take_length] at s
      obtain ⟨g', s⟩ := s.freeze (i := 2) (m := 0) rfl rfl rfl
      -- return [any([mask & group == mask for mask in masks]) for group in range(1 << count)]
      have h64 : (1 : Int) * 2 ^ (n : Int).toNat ≤ 64 := by
        rw [Int.toNat_natCast, Int.one_mul]
        have : (2 : Int) ^ n ≤ 2 ^ 6 := by
          have := Nat.pow_le_pow_right (show 0 < 2 by decide) hn
          exact_mod_cast this
        exact this
      have h0 : (0 : Int) ≤ 1 * 2 ^ (n : Int).toNat := by rw [Int.one_mul]; exact two_pow_nn _
      refine st_ret s (EvN.ev (EvN.all (en_lcR (ev_iC ev_int (ev_var rfl) ⟨by omega, by omega, by decide⟩) (fun _ _ => et_yes) (fun x hx _ => (ev_any (EvN.ev (EvN.all (en_lcL (m := fun y => decide (Builtin.bitAnd y x = y)) tgt_name (ev_var rfl) (fun _ _ => et_yes) (fun y hy _ => (ev_eqI (ev_i2 (ev_var rfl) (ev_var rfl)) (ev_var rfl))) (by simp; omega)))))) (by omega) (by omega)))) ?_
      refine fun v g h s r => fin v _ g h _ _ _ ?_ s r
      have e : ((1 : Int) * 2 ^ (n : Int).toNat).toNat = 2 ^ n := by
        rw [Int.toNat_natCast, Int.one_mul]
        exact Int.toNat_natCast (2 ^ n)
      rw [e]
      simp only [any_map]
      exact hP
end K34
namespace K34
open PySem PySem.Spec PyProof.Rows L2 Lw RZ
variable {P : Program} {w : World} {K : PySem.W.Frag} {mg : Str → Option Value} {base : Heap}
/-- the parties on which the day falls in an order -/
def fallsIn (T : Int → Bool) : Int → Bool → List Int → List Int
  | _, _, [] => []
  | g, f, p :: r => if (T (g + 2 ^ p.toNat) && !f) = true then p :: fallsIn T (g + 2 ^ p.toNat) true r else fallsIn T (g + 2 ^ p.toNat) f r
def tabAt (tb : List Bool) (x : Int) : Bool := tb.getD x.toNat false
def cntI (p : Nat) (xs : List Int) : Int := ((xs.count (p : Int) : Nat) : Int)
def fallsF (n : Nat) (told : List (Tup Int)) (p : Nat) : Int := cntI p ((ordersF n).flatMap fun o => fallsIn (tabAt (tableF n told)) 0 (tabAt (tableF n told) 0) o)
def a_lshares (K : PySem.W.Frag) : List (Slot K) → (List (Int × Int) → Prop) → Prop := fun xs P => ∃ (n : Nat) (told : List (Tup Int)), xs = [sv (n : Int), sv told] ∧ (n ≤ 6 ∧ TOk n told) ∧
  P ((List.range n).map fun p => redF (fallsF n told p) ((ordersF n).length : Int))
theorem table_len (n : Nat) (told : List (Tup Int)) : (tableF n told).length = 2 ^ n := by unfold tableF; rw [List.length_map, upto_len]
theorem ord_sum : ∀ n, n ≤ 6 → ∀ o ∈ ordersF n, (o.map fun p => (2 : Int) ^ p.toNat).sum = 2 ^ n - 1 := by decide +kernel
theorem ord_mem : ∀ n, n ≤ 6 → ∀ o ∈ ordersF n, ∀ p ∈ o, 0 ≤ p ∧ p < n := by decide +kernel
theorem sum_pow_nonneg (o : List Int) : 0 ≤ (o.map fun p => (2 : Int) ^ p.toNat).sum := by
  induction o with
  | nil => exact Int.le_refl _
  | cons a o ih => rw [List.map_cons, List.sum_cons]; have := two_pow_nn a.toNat; omega
theorem cnt_cons (p : Nat) (a : Int) (xs : List Int) : cntI p (xs ++ [a]) = cntI p xs + if (p : Int) = a then 1 else 0 := by
  unfold cntI
  rw [List.count_append, List.count_singleton]
  by_cases h : (p : Int) = a
  · rw [if_pos h, if_pos (by rw [beq_iff_eq]; exact h.symm)]; omega
  · rw [if_neg h, if_neg (by rw [beq_iff_eq]; exact Ne.symm h)]; omega
theorem cnt_app (p : Nat) (xs ys : List Int) : cntI p (xs ++ ys) = cntI p xs + cntI p ys := by unfold cntI; rw [List.count_append]; omega
theorem sc_law_shares : FnScope ["count", "told", "table", "orders", "falls", "i", "order", "group", "fallen", "party", "number"] ["count", "told"] (defScope (topS 21)) := ⟨rfl, rfl, rfl, by decide +kernel, rfl, by decide +kernel, by decide +kernel⟩
theorem ok_law_shares (E : FX K mg) : Cal P w K mg base "_law_shares" 3 ["count", "told"] (SpR K (a_lshares K)) := by
  refine E.cal 17 17 (st := topS 21) rfl rfl (fun _ _ _ _ _ _ us hl => match us, hl with | [_, _], _ => rfl) fun f fd F => okRD F sc_law_shares (fun xs P' h => ?_) (fun cdv Ar outer s0 H0 E0 hr xs P' h => ?_)
  · obtain ⟨_, _, rfl, _⟩ := h; rfl
  · obtain ⟨n, told, rfl, ⟨hn, hT⟩, hP⟩ := h
    refine ⟨_, (pss_cons (ps_set (i := 2) sc_law_shares.nd rfl (.inl rfl) (pe_c (ok_law_brings E) (hr.mono (by decide)) rfl (pa_cons (pv 0) (pa_cons (pv 1) pa_nil))))
    (pss_cons (ps_set (i := 3) sc_law_shares.nd rfl (.inr rfl) (pe_c (ok_law_orders E) (hr.mono (by decide)) rfl (pa_cons (pv 0) pa_nil)))
    (pss_cons (ps_setLc (i := 4) (own := [("i", 5)]) (g := gName 5) (tt := tYes) rfl sc_law_shares.nd rfl rfl (sw_true rfl rfl rfl (by decide +kernel)) (pi_range1 rfl (E.free 27) (pa_cons (pv 0) pa_nil)) (blkOk_by (N := ["count", "told", "table", "orders", "falls", "i", "order", "group", "fallen", "party", "number"]) (sc := defScope (topS 21)) (own := [("i", 5)]) (by decide +kernel)) (fun _ _ _ _ _ => (pg_name (i := 5) sc_law_shares.nd rfl (Or.inl rfl))) (fun _ _ _ _ _ => pts_nil) (fun _ _ _ _ _ => pe_int))
    (pss_cons (ps_for PassesOwn.never rfl (pi_listK K (pv 3)) (pg_name (i := 6) sc_law_shares.nd rfl (.inl rfl))
      (pss_cons (ps_set (i := 7) sc_law_shares.nd rfl (.inl rfl) pe_int)
    (pss_cons (ps_set (i := 8) sc_law_shares.nd rfl (.inl rfl) (pe_ix (ix_listK K) (pv 2) pe_int (fun _ _ => rfl)))
    (pss_one (ps_for PassesOwn.never rfl (pi_listK K (pv 6)) (pg_name (i := 9) sc_law_shares.nd rfl (.inl rfl))
      (pss_cons (ps_set (i := 7) sc_law_shares.nd rfl (.inl rfl) (pe_op op_add (pv 7) (pe_op op_shl pe_int (pv 9))))
    (pss_one (ps_if (PW.pt (pw_and (pt_val (pe_ix (ix_listK K) (pv 2) (pv 7) (fun _ _ => rfl))) (pw_and1 (pt_not (pt_val (pv 8)))))) (pss_cons (ps_asg (pe_op op_add (pe_ix (ix_listK K) (pv 4) (pv 9) (fun _ _ => rfl)) pe_int) (pg_sub (pv 4) (pv 9) set_list))
    (pss_one (ps_set (i := 8) sc_law_shares.nd rfl (.inl rfl) pe_bl))) pss_nil))))))))
    (pss_one (ps_ret (pe_lc (own := [("number", 10)]) (g := gName 10) (tt := tYes) rfl sc_law_shares.nd (pi_listK K (pv 4)) (blkOk_by (N := ["count", "told", "table", "orders", "falls", "i", "order", "group", "fallen", "party", "number"]) (sc := defScope (topS 21)) (own := [("number", 10)]) (by decide +kernel)) (fun _ _ _ _ _ => (pg_name (i := 10) sc_law_shares.nd rfl (Or.inl rfl))) (fun _ _ _ _ _ => pts_nil) (fun _ _ _ _ _ => (pe_c (ok_law_lowest E) (hr.mono (by decide)) rfl (pa_cons (pv 10) (pa_cons (pe_callB (len_seqK K) (by rfl) (E.free 29) (by decide +kernel) (pa_cons (pv 3) pa_nil)) pa_nil))))))))))), fun g σ Q s fin => ?_⟩
    -- table = _law_brings(count, told)
    refine st_set s (ev_call (ea_cons (ev_var rfl) (ea_cons (ev_var rfl) ea_nil)) ⟨_, _, rfl, ⟨hn, hT⟩, rfl⟩) (fun v g h s => ?_)
    generalize htb : tableF n told = tb at s
    have htl : tb.length = 2 ^ n := by rw [← htb]; exact table_len n told
    have hpos : 0 < 2 ^ n := Nat.pow_pos (by decide)
    -- orders = _law_orders(count)
    refine st_set s (ev_call (ea_cons (ev_var rfl) ea_nil) ⟨_, rfl, hn, rfl⟩) (fun v g h s => ?_)
    have hon := ordN n hn
    -- falls = [0 for i in range(count)]
    refine st_setN s (EvN.all (en_lcR (m := fun _ => (0 : Int)) (ev_var rfl) (fun _ _ => et_yes) (fun x hx _ => ev_int) (by omega) (by omega))) (fun l g h s => ?_)
    have ef0 : (upto (n : Int).toNat).map (fun _ => (0 : Int)) = (List.range n).map fun p => cntI p (((ordersF n).take 0).flatMap fun o => fallsIn (tabAt tb) 0 (tabAt tb 0) o) := by
      unfold upto
      rw [Int.toNat_natCast, List.map_map]
      apply List.map_congr_left
      intro p _
      rfl
    -- for order in orders:
    refine st_for_list tgt_name s (ev_var rfl) (fun k e o => ∃ s5 s6 s7 s8 s9 s10, e = [sv (n : Int), sv told, sv tb, sv (ordersF n), sv (V.ref l), s5, s6, s7, s8, s9, s10] ∧ o = [(l, Own.lst K ((List.range n).map fun p => cntI p (((ordersF n).take k).flatMap fun o => fallsIn (tabAt tb) 0 (tabAt tb 0) o)))]) ⟨_, _, _, _, _, _, rfl, by rw [← ef0]; rfl⟩ (fun k x hx c hls e o g h σ N hI back s hN => ?_) (fun e o g h σ hI s => ?_)
    · obtain ⟨s5, s6, s7, s8, s9, s10, rfl, rfl⟩ := hI
      have hxm := List.mem_of_getElem? hx
      have hsum := ord_sum n hn x hxm
      have hmem := ord_mem n hn x hxm
      -- group = 0
      refine st_set s ev_int (fun v g h s => ?_)
      -- fallen = table[0]
      refine st_set s (ev_ixLD false (ev_var rfl) ev_int (by decide) (by rw [htl]; omega)) (fun v g h s => ?_)
      -- for party in order:
      refine st_for_list tgt_name s (ev_var rfl) (fun j e o => ∃ (s5 : Slot K) (gr : Int) (fl : Bool) (s9 s10 : Slot K) (acc : List Int), e = [sv (n : Int), sv told, sv tb, sv (ordersF n), sv (V.ref l), s5, sv x, sv gr, sv fl, s9, s10] ∧ o = [(l, Own.lst K ((List.range n).map fun p => cntI p (((ordersF n).take k).flatMap fun o => fallsIn (tabAt tb) 0 (tabAt tb 0) o) + cntI p acc))] ∧ 0 ≤ gr ∧ gr + ((x.drop j).map fun p => (2 : Int) ^ p.toNat).sum = 2 ^ n - 1 ∧ fallsIn (tabAt tb) 0 (tabAt tb 0) x = acc ++ fallsIn (tabAt tb) gr fl (x.drop j))
        ⟨_, _, _, _, _, [], rfl, ?_, Int.le_refl _, by rw [List.drop_zero, hsum]; omega, rfl⟩ (fun j p hp c' hls' e o g h σ N' hI back' s hN' => ?_) (fun e o g h σ hI s => ?_)
      · congr 3
      · obtain ⟨s5', gr, fl, s9', s10', acc, rfl, rfl, hg0, hgs, hfa⟩ := hI
        have hd := drop_one hp
        have hpm := hmem p (List.mem_of_getElem? hp)
        rw [hd, List.map_cons, List.sum_cons] at hgs
        have h1 := sum_pow_nonneg (x.drop (j + 1))
        have h2 := two_pow_nn p.toNat
        -- group = group + (1 << party)
        refine st_set s (ev_i2 (ev_var rfl) (ev_iC ev_int (ev_var rfl) ⟨hpm.1, by omega, by decide⟩)) (fun v g h s => ?_)
        have e1 : gr + 1 * 2 ^ p.toNat = gr + 2 ^ p.toNat := by rw [Int.one_mul]
        rw [e1] at s
        have hin : gr + 2 ^ p.toNat < tb.length := by
          rw [htl, Int.natCast_pow]
          show gr + 2 ^ p.toNat < 2 ^ n
          omega
        rw [hd] at hfa
        -- if table[group] and (not fallen):
        refine st_if s (et_and (et_B (ev_ixLD false (ev_var rfl) (ev_var rfl) (by omega) hin)) fun _ => (et_not (et_B (ev_var rfl)))) (fun hc g h s => ?_) (fun hc g h s => ?_)
        · have hc' : (tabAt tb (gr + 2 ^ p.toNat) && !fl) = true := hc
          have hpn : p < (((List.range n).map fun q => cntI q (((ordersF n).take k).flatMap fun o => fallsIn (tabAt tb) 0 (tabAt tb 0) o) + cntI q acc).length : Int) := by simp; omega
          -- falls[party] = falls[party] + 1
          refine st_setO (m := 0) s (ev_i2 (ev_ixO (m := 0) rfl rfl (ev_var rfl) (atI_getD (d := 0) hpm.1 hpn)) ev_int) rfl rfl (ev_var rfl) hpm.1 hpn (fun g h s => ?_)
          -- fallen = True
          dsimp only
          refine st_set s ev_bl (fun v g h s => ?_)
          refine hN' _ _ _ _ _ ⟨_, gr + 2 ^ p.toNat, true, _, _, acc ++ [p], rfl, ?_, by omega, by omega, ?_⟩ s
          · show [(l, Own.lst K (List.set _ _ _))] = _
            rw [set_map]
            congr 3
            apply List.map_congr_left
            intro q hq
            rw [List.mem_range] at hq
            rw [cnt_cons]
            by_cases hqp : q = p.toNat
            · subst hqp
              have hlt : p.toNat < n := by omega
              rw [if_pos rfl, if_pos (by omega), List.getD_eq_getElem?_getD, List.getElem?_map, List.getElem?_range hlt]
              simp only [Option.map_some, Option.getD_some]
              omega
            · rw [if_neg hqp, if_neg (by omega)]
              omega
          · rw [hfa]
            show acc ++ (if (tabAt tb (gr + 2 ^ p.toNat) && !fl) = true then _ else _) = _
            rw [if_pos hc']
            simp
        · have hc' : ¬ (tabAt tb (gr + 2 ^ p.toNat) && !fl) = true := by
            show ¬ (tb.getD (gr + 2 ^ p.toNat).toNat false && !fl) = true
            rw [hc]; exact Bool.false_ne_true
          refine hN' _ _ _ _ _ ⟨_, gr + 2 ^ p.toNat, fl, _, _, acc, rfl, rfl, by omega, by omega, ?_⟩ s
          rw [hfa]
          show acc ++ (if (tabAt tb (gr + 2 ^ p.toNat) && !fl) = true then _ else _) = _
          rw [if_neg hc']
      · obtain ⟨s5', gr, fl, s9', s10', acc, rfl, rfl, hg0, hgs, hfa⟩ := hI
        dsimp only
        refine hN _ _ _ _ _ ⟨_, _, _, _, _, _, rfl, ?_⟩ s
        rw [List.drop_length] at hfa
        have hfa' : fallsIn (tabAt tb) 0 (tabAt tb 0) x = acc := by rw [hfa]; exact List.append_nil _
        congr 3
        apply List.map_congr_left
        intro q hq
        rw [flatMap_take hx, cnt_app, hfa']
    · obtain ⟨s5, s6, s7, s8, s9, s10, rfl, rfl⟩ := hI
      dsimp only
      rw [List.take_length] at s
      obtain ⟨g', s⟩ := s.freeze (i := 4) (m := 0) rfl rfl rfl
      -- return [_law_lowest(number, len(orders)) for number in falls]
      have hp : ∀ x ∈ (List.range n).map (fun p => cntI p ((ordersF n).flatMap fun o => fallsIn (tabAt tb) 0 (tabAt tb 0) o)), 0 ≤ x ∧ 0 < ((ordersF n).length : Int) ∧ ((ordersF n).length : Int).natAbs < 2 ^ 4000 := by
        intro x hx
        rw [List.mem_map] at hx
        obtain ⟨p, _, rfl⟩ := hx
        refine ⟨by unfold cntI; omega, by omega, ?_⟩
        rw [Int.natAbs_natCast]
        exact Nat.lt_of_le_of_lt hon.1 (Nat.lt_of_lt_of_le (by decide : 720 < 2 ^ 10) (Nat.pow_le_pow_right (by decide) (by decide)))
      refine st_ret s (EvN.ev (EvN.all (en_lcL (m := fun x => redF x ((ordersF n).length : Int)) tgt_name (ev_var rfl) (fun _ _ => et_yes) (fun x hx _ => (ev_call (ea_cons (ev_var rfl) (ea_cons (ev_lenL (ev_var rfl)) ea_nil)) ⟨_, _, rfl, hp x hx, rfl⟩)) (by simp; omega)))) ?_
      refine fun v g h s r => fin v _ g h _ _ _ ?_ s r
      rw [List.map_map]
      subst htb
      exact hP
end K34
namespace K34
open PySem PySem.Spec PyProof.Rows L2 Lw RZ
variable {P : Program} {w : World} {K : PySem.W.Frag} {mg : Str → Option Value} {base : Heap}
def OkPs (ps : List (Int × Int)) : Prop := ps.length ≤ 100 ∧ ∀ p ∈ ps, 0 ≤ p.1 ∧ p.1 < 4096 ∧ 0 < p.2 ∧ p.2 < 4096
theorem sc_law_sum : FnScope ["pairs", "total", "pair"] ["pairs"] (defScope (topS 23)) := ⟨rfl, rfl, rfl, by decide +kernel, rfl, by decide +kernel, by decide +kernel⟩
theorem ok_law_sum (E : FX K mg) : Cal P w K mg base "_law_sum" 3 ["pairs"] (SpR K (a_added K)) := by
  refine E.cal 19 19 (st := topS 23) rfl rfl (fun _ _ _ _ _ _ us hl => match us, hl with | [_], _ => rfl) fun f fd F => okRD F sc_law_sum (fun xs P' h => ?_) (fun cdv Ar outer s0 H0 E0 hr xs P' h => ?_)
  · obtain ⟨_, rfl, _⟩ := h; rfl
  · obtain ⟨pairs, rfl, ⟨hl, hp⟩, hP⟩ := h
    refine ⟨_, (pss_cons (ps_set (i := 1) sc_law_sum.nd rfl (.inl rfl) (pe_tup (pa_cons pe_int (pa_cons pe_int pa_nil))))
    (pss_cons (ps_for PassesOwn.never rfl (pi_listK K (pv 0)) (pg_name (i := 2) sc_law_sum.nd rfl (.inl rfl))
      (pss_one (ps_set (i := 1) sc_law_sum.nd rfl (.inl rfl) (pe_c (ok_law_lowest E) (hr.mono (by decide)) rfl (pa_cons (pe_op op_add (pe_op op_mulW (pe_ix (ix_tupK K) (pv 1) pe_int (fun _ _ => rfl)) (pe_ix (ix_tupK K) (pv 2) pe_int (fun _ _ => rfl))) (pe_op op_mulW (pe_ix (ix_tupK K) (pv 2) pe_int (fun _ _ => rfl)) (pe_ix (ix_tupK K) (pv 1) pe_int (fun _ _ => rfl)))) (pa_cons (pe_op op_mulW (pe_ix (ix_tupK K) (pv 1) pe_int (fun _ _ => rfl)) (pe_ix (ix_tupK K) (pv 2) pe_int (fun _ _ => rfl))) pa_nil))))))
    (pss_one (ps_ret (pv 1))))), fun g σ Q s fin => ?_⟩
    -- total = (0, 1)
    refine st_set s (ev_pair ev_int ev_int) (fun v g h s => ?_)
    -- for pair in pairs:
    refine st_for_list tgt_name s (ev_var rfl) (fun n e o => ∃ s2, e = [sv pairs, sv ((pairs.take n).foldl stepF (0, 1)), s2] ∧ n ≤ pairs.length) ⟨_, rfl, Nat.zero_le _⟩ (fun n x hx c hls e o g h σ N hI back s hN => ?_) (fun e o g h σ hI s => ?_)
    · obtain ⟨s2, rfl, hn⟩ := hI
      have hx' := hp x (List.mem_of_getElem? hx)
      have hn' := (List.getElem?_eq_some_iff.mp hx).1
      have b1 := bd_up (bd_fold hp n hn) (show 13 * n + 13 ≤ 2000 by omega)
      have b2 := bd_up (bd_pre b1 hx') (show 2000 + 13 ≤ 4000 by omega)
      -- total = _law_lowest(total[0] * pair[1] + pair[0] * total[1], total[1] * pair[1])
      refine st_set s (ev_call (ea_cons (ev_i2 (ev_iC (ev_ixP0 (ev_var rfl)) (ev_ixP1 (ev_var rfl)) (wm b1.2.1 (by omega) (by decide) (by decide))) (ev_iC (ev_ixP0 (ev_var rfl)) (ev_ixP1 (ev_var rfl)) (wide_mul (a := 13) (b := 2000) (by omega) b1.2.2.2 (by decide) (by decide) (by decide)))) (ea_cons (ev_iC (ev_ixP1 (ev_var rfl)) (ev_ixP1 (ev_var rfl)) (wm b1.2.2.2 (by omega) (by decide) (by decide))) ea_nil)) ⟨_, _, rfl, ⟨b2.1, b2.2.2.1, b2.2.2.2⟩, rfl⟩) (fun v g h s => ?_)
      exact hN _ _ _ _ _ ⟨sv x, by rw [foldl_take_succ hx]; rfl, hn'⟩ s
    · obtain ⟨s2, rfl, hn⟩ := hI
      dsimp only
      -- return total
      refine st_ret s (ev_var rfl) ?_
      refine fun v g h s r => fin v _ g h _ _ _ ?_ s r
      rw [List.take_length]
      exact hP
def a_added_holds (K : PySem.W.Frag) : List (Slot K) → (Bool → Prop) → Prop := fun xs P => ∃ ps : List (Int × Int), xs = [sv ps] ∧ OkPs ps ∧ P true
theorem sc_law_added_holds : FnScope ["pairs", "handed", "actual"] ["pairs"] (defScope (topS 24)) := ⟨rfl, rfl, rfl, by decide +kernel, rfl, by decide +kernel, by decide +kernel⟩
theorem ok_law_added_holds (E : FX K mg) : Cal P w K mg base "_law_added_holds" 4 ["pairs"] (SpR K (a_added_holds K)) := by
  refine E.cal 20 20 (st := topS 24) rfl rfl (fun _ _ _ _ _ _ us hl => match us, hl with | [_], _ => rfl) fun f fd F => okRD F sc_law_added_holds (fun xs P' h => ?_) (fun cdv Ar outer s0 H0 E0 hr xs P' h => ?_)
  · obtain ⟨_, rfl, _⟩ := h; rfl
  · obtain ⟨pairs, rfl, ho, hP⟩ := h
    refine ⟨_, (pss_cons (ps_set (i := 1) sc_law_added_holds.nd rfl (.inl rfl) (pe_callTy (list_ofK K) (by rfl) (E.free 28) (by decide +kernel) (pa_cons (pv 0) pa_nil)))
    (pss_cons (ps_set (i := 2) sc_law_added_holds.nd rfl (.inl rfl) (pe_c (ok_added E) (hr.mono (by decide)) rfl (pa_cons (pv 1) pa_nil)))
    (pss_one (ps_ret (pe_and (pe_c (ok_law_is_pair E) (hr.mono (by decide)) rfl (pa_cons (pv 2) (pa_cons (pe_c (ok_law_sum E) (hr.mono (by decide)) rfl (pa_cons (pv 0) pa_nil)) pa_nil))) (pe_one (pe_cmpR (eqDK K hr.units) (pv 1) (pv 0) (nomark _)))))))), fun g σ Q s fin => ?_⟩
    -- handed = list(pairs)
    refine st_set s (ev_listL (ev_var rfl)) (fun v g h s => ?_)
    -- actual = added(handed)
    refine st_set s (ev_call (ea_cons (ev_var rfl) ea_nil) ⟨_, rfl, ho, rfl⟩) (fun v g h s => ?_)
    -- return _law_is_pair(actual, _law_sum(pairs)) and handed == pairs
    refine st_ret s (ev_andV (ev_call (ea_cons (ev_var rfl) (ea_cons (ev_call (ea_cons (ev_var rfl) ea_nil) ⟨_, rfl, ho, rfl⟩) ea_nil)) ⟨_, _, rfl, rfl⟩) fun _ => (ev_eqD (ev_var rfl) (ev_var rfl) decide_eq_true_iff)) ?_
    refine fun v g h s r => fin v _ g h _ _ _ ?_ s r
    simpa using hP
end K34
/-! Steps that change owned objects: expressions whose value is known in part, promises of defs that change what they are handed. -/
namespace Lw
open PySem PySem.Spec PyProof.Rows L2
section
variable {K : PySem.W.Frag}
/-- owned objects stand -/
structure Ow (g h : Hp) (os : Os) : Prop where
  own : ∀ p ∈ os, g p.1 = none ∧ ∃ o : HO, h p.1 = some o ∧ p.2.P g o
  nd : (os.map (·.1)).Nodup
/-- a step that changes nothing but what stands at ls -/
structure LeW (ls : List Addr) (g h g' h' : Hp) : Prop where
  gg : Same g g'
  hh : ∀ a o, a ∉ ls → h a = some o → h' a = some o
  gh : Same g' h'
  th : ∀ a, h a ≠ none → h' a ≠ none
  new : ∀ a, g a = none → h a ≠ none → g' a = none
variable {env : Env K} {os osc os' osz : Os} {ta tb te tx tl : TE} {tt t u : TT} {α β γ : Type} [iα : Py K α] [iβ : Py K β] [iγ : Py K γ]
variable {b : Bs} {g h g' h' : Hp} {σ : L2.St} {D : Ends} {t1 t2 : TS} {i j : Nat}
theorem S0.ow (s : S0 b g h σ env os) : Ow g h os := ⟨s.own, s.nd⟩
theorem Ow.sub (o : Ow g h os) (hs : ∀ p ∈ os', p ∈ os) (nd : (os'.map (·.1)).Nodup) : Ow g h os' := ⟨fun p hp => o.own p (hs p hp), nd⟩
theorem os_inj (nd : (os.map (·.1)).Nodup) {p q : Addr × Own} (hp : p ∈ os) (hq : q ∈ os) (e : p.1 = q.1) : p = q := by
  obtain ⟨i, hi⟩ := List.mem_iff_getElem?.mp hp
  obtain ⟨j, hj⟩ := List.mem_iff_getElem?.mp hq
  have a1 : (os.map (·.1))[i]? = some p.1 := by rw [List.getElem?_map, hi]; rfl
  have a2 : (os.map (·.1))[j]? = some p.1 := by rw [List.getElem?_map, hj, e]; rfl
  have hl : i < (os.map (·.1)).length := (List.getElem?_eq_some_iff.mp a1).1
  have := (List.getElem?_inj hl nd).mp (a1.trans a2.symm)
  subst this
  rw [hi] at hj
  exact Option.some.inj hj
/-- behind a call that was handed the objects osc -/
theorem S0.after (s : S0 b g h σ env os) (hc : ∀ p ∈ osc, p ∈ os) (l : LeW (osc.map (·.1)) g h g' h') (o : Ow g' h' osz) (hf : ∀ p ∈ osz, p.1 ∈ osc.map (·.1) ∨ h p.1 = none)
    (hm : ∀ p ∈ os', p ∈ osz ∨ (p ∈ os ∧ p.1 ∉ osc.map (·.1))) (nd : (os'.map (·.1)).Nodup) : S0 b g' h' σ env os' where
  gh := l.gh
  len := s.len
  sl := fun i t e => Slot.ok_mono l.gg (s.sl i t e)
  own := fun p hp => by
    rcases hm p hp with q | ⟨q, n⟩
    · exact o.own p q
    · obtain ⟨n1, u, e, r⟩ := s.own p q
      exact ⟨l.new _ n1 (some_ne_none e), u, l.hh _ _ n e, p.2.mono l.gg r⟩
  nd := nd
  gg := s.gg.trans l.gg
  fr := fun a u n e => by
    refine l.hh _ _ (fun z => ?_) (s.fr a u n e)
    obtain ⟨p, hp, rfl⟩ := List.mem_map.mp z
    rcases s.ol p (hc p hp) with w | w
    · rw [w] at e; cases e
    · exact n w
  th := fun a n => l.th a (s.th a n)
  new := fun a n m => l.new a (s.new a n m) (s.th a m)
  ol := fun p hp => by
    have key : ∀ q ∈ os, b.h q.1 = none ∨ q.1 ∈ b.ls := s.ol
    rcases hm p hp with q | ⟨q, _⟩
    · rcases hf p q with z | z
      · obtain ⟨r, hr, e⟩ := List.mem_map.mp z
        rw [← e]; exact key r (hc r hr)
      · left
        cases w : b.h p.1 with
        | none => rfl
        | some u => exact absurd z (s.th _ (some_ne_none w))
    · exact key p q
/-- the same objects, changed or not, told as before -/
theorem S0.afterSame (s : S0 b g h σ env os) (hc : ∀ p ∈ osc, p ∈ os) (l : LeW (osc.map (·.1)) g h g' h') (o : Ow g' h' osc) : S0 b g' h' σ env os :=
  s.after hc l o (fun p hp => .inl (List.mem_map_of_mem hp)) (fun p hp => by
    by_cases q : p.1 ∈ osc.map (·.1)
    · obtain ⟨r, hr, e⟩ := List.mem_map.mp q
      rw [← os_inj s.nd (hc r hr) hp e]; exact .inl hr
    · exact .inr ⟨hp, q⟩) s.nd
theorem Le.w (l : Le g h g' h') (ls : List Addr) : LeW ls g h g' h' := ⟨l.gg, fun a o _ e => l.hh a o e, l.gh, fun _ n => sameNe l.hh n, l.new⟩

/-- te gives a value of some x with P x; owned objects may change, and are told as before -/
structure EvW (te : TE) (env : Env K) (os : Os) {α : Type} [i : Py K α] (P : α → Prop) : Prop where
  run : ∀ {b : Bs} {g h : Hp} {σ : L2.St} {os2 : Os} {Q : VK}, S0 b g h σ env (os ++ os2) → (∀ v x g' h', P x → S0 b g' h' σ env (os ++ os2) → Same g g' → i.R g' v x → Q v h') → te σ h Q
structure EvTW (tt : TT) (env : Env K) (os : Os) (P : Bool → Prop) : Prop where
  run : ∀ {b : Bs} {g h : Hp} {σ : L2.St} {os2 : Os} {Q : Bool → Hp → Prop}, S0 b g h σ env (os ++ os2) → (∀ c g' h', P c → S0 b g' h' σ env (os ++ os2) → Same g g' → Q c h') → tt σ h Q
structure EvAW (ta : TA) (env : Env K) (os : Os) (P : List (Slot K) → Prop) : Prop where
  run : ∀ {b : Bs} {g h : Hp} {σ : L2.St} {os2 : Os} {Q : List V → Hp → Prop}, S0 b g h σ env (os ++ os2) → (∀ vs xs g' h', P xs → S0 b g' h' σ env (os ++ os2) → Same g g' → Args g' vs xs → Q vs h') → ta σ h Q
structure EvNW (te : TE) (env : Env K) (os : Os) {α : Type} [i : Py K α] (P : List α → Prop) : Prop where
  run : ∀ {b : Bs} {g h : Hp} {σ : L2.St} {os2 : Os} {Q : VK}, S0 b g h σ env (os ++ os2) → (∀ l vs xs g' h', P xs → S0 b g' h' σ env (os ++ os2) → Same g g' → h' l = none → Paired (i.R g') vs xs → Q (.ref l) (upd h' l (.lst vs))) → te σ h Q
theorem EvW.go {P : α → Prop} {Q : VK} (e : EvW te env os P) (s : S0 b g h σ env os) (k : ∀ v x g' h', P x → S0 b g' h' σ env os → Same g g' → iα.R g' v x → Q v h') : te σ h Q :=
  e.run (os2 := []) (by rw [List.append_nil]; exact s) fun v x g' h' p s' e r => k v x g' h' p (by rw [List.append_nil] at s'; exact s') e r
theorem EvTW.go {P : Bool → Prop} {Q : Bool → Hp → Prop} (e : EvTW tt env os P) (s : S0 b g h σ env os) (k : ∀ c g' h', P c → S0 b g' h' σ env os → Same g g' → Q c h') : tt σ h Q :=
  e.run (os2 := []) (by rw [List.append_nil]; exact s) fun c g' h' p s' e => k c g' h' p (by rw [List.append_nil] at s'; exact s') e
theorem EvNW.go {P : List α → Prop} {Q : VK} (e : EvNW te env os P) (s : S0 b g h σ env os) (k : ∀ l vs xs g' h', P xs → S0 b g' h' σ env os → Same g g' → h' l = none → Paired (iα.R g') vs xs → Q (.ref l) (upd h' l (.lst vs))) : te σ h Q :=
  e.run (os2 := []) (by rw [List.append_nil]; exact s) fun l vs x g' h' p s' e n r => k l vs x g' h' p (by rw [List.append_nil] at s'; exact s') e n r
theorem Ev.w {x : α} (e : Ev te env os x) : EvW te env os (fun y => y = x) := .mk fun {b g h σ os2 Q} s q =>
  e s.drop fun v g' h' l r => q v x g' h' rfl (s.le l) l.gg r
theorem EvT.w {c : Bool} (e : EvT tt env os c) : EvTW tt env os (fun d => d = c) := .mk fun {b g h σ os2 Q} s q =>
  e s.drop fun g' h' l => q c g' h' rfl (s.le l) l.gg
theorem EvN.w {xs : List α} (e : EvN te env os xs) : EvNW te env os (fun y => y = xs) := .mk fun {b g h σ os2 Q} s q =>
  e s.drop fun l vs g' h' le n r => q l vs xs g' h' rfl (s.le le) le.gg n r
theorem EvW.imp {P P' : α → Prop} (e : EvW te env os P) (hp : ∀ x, P x → P' x) : EvW te env os P' := .mk fun {b g h σ os2 Q} s q =>
  e.run s fun v x g' h' p => q v x g' h' (hp x p)
theorem EvTW.imp {P P' : Bool → Prop} (e : EvTW tt env os P) (hp : ∀ x, P x → P' x) : EvTW tt env os P' := .mk fun {b g h σ os2 Q} s q =>
  e.run s fun c g' h' p => q c g' h' (hp c p)
theorem EvNW.imp {P P' : List α → Prop} (e : EvNW te env os P) (hp : ∀ x, P x → P' x) : EvNW te env os P' := .mk fun {b g h σ os2 Q} s q =>
  e.run s fun l vs x g' h' p => q l vs x g' h' (hp x p)
theorem EvNW.w {P : List α → Prop} (h : EvNW te env os P) : EvW te env os P := .mk fun {b g h' σ os2 Q} s q => h.run s fun l vs x g1 h1 p s1 e1 hl r =>
  have le := Le.laid s1.gh hl (o := .lst vs)
  q _ x (upd g1 l (.lst vs)) _ p (s1.le le) (e1.trans le.gg) ⟨l, vs, rfl, .inl (.inl upd_same), pr_mono le.gg r⟩
/-- the values alone -/
theorem S0.slots {vs : List V} {xs : List (Slot K)} (s : S0 b g h σ env os) (r : Args g vs xs) : S0 b g h (vs.map some) xs os :=
  { s with
    len := by rw [List.length_map, args_len r]
    sl := fun i t e => by
      have q := args_get r e
      rw [List.getElem?_map]
      cases hv : vs[i]? with
      | none => rw [hv] at q; exact q
      | some v => rw [hv] at q; exact q }
theorem arg1 {v : V} {x : α} (r : iα.R g v x) : Args g [v] [sv (K := K) x] := .cons ⟨v, rfl, r⟩ .nil
theorem arg2 {v w : V} {x : α} {y : β} (r : iα.R g v x) (r' : iβ.R g w y) : Args g [v, w] [sv (K := K) x, sv y] := .cons ⟨v, rfl, r⟩ (.cons ⟨w, rfl, r'⟩ .nil)
/-- an operation that changes nothing, of values known in part -/
theorem ew_op {r : R2} {P : α → Prop} {P' : β → Prop} {f : α → β → γ} (ha : EvW ta env os P) (hb : EvW tb env os P') (hr : ∀ x y, P x → P' y → Ev (tOp r (tVar 0) (tVar 1)) [sv (K := K) x, sv y] [] (f x y)) :
    EvW (tOp r ta tb) env os (fun z => ∃ x y, P x ∧ P' y ∧ z = f x y) := .mk fun {b g h σ os2 Q} s q =>
  ha.run s fun v x g1 h1 p1 s1 e1 r1 => hb.run s1 fun w y g2 h2 p2 s2 e2 r2 => by
    obtain ⟨v', hv, w', hw, z⟩ := hr x y p1 p2 ((s2.slots (arg2 (iα.mono e2 r1) r2)).drop (os := [])) fun u g3 h3 l3 r3 => q u (f x y) g3 h3 ⟨x, y, p1, p2, rfl⟩ (s2.le l3) (e1.trans (e2.trans l3.gg)) r3
    cases hv; cases hw
    exact z
theorem ew_un {r : V → Hp → VK → Prop} {P : α → Prop} {f : α → γ} (ha : EvW ta env os P) (hr : ∀ x, P x → Ev (tUn r (tVar 0)) [sv (K := K) x] [] (f x)) : EvW (tUn r ta) env os (fun z => ∃ x, P x ∧ z = f x) := .mk fun {b g h σ os2 Q} s q =>
  ha.run s fun v x g1 h1 p1 s1 e1 r1 => by
    obtain ⟨v', hv, z⟩ := hr x p1 ((s1.slots (arg1 r1)).drop (os := [])) fun u g3 h3 l3 r3 => q u (f x) g3 h3 ⟨x, p1, rfl⟩ (s1.le l3) (e1.trans l3.gg) r3
    cases hv
    exact z
theorem ew_cb1 {r : List V → Hp → VK → Prop} {P : α → Prop} {f : α → γ} (ha : EvW ta env os P) (hr : ∀ x, P x → Ev (tCB r (tCons (tVar 0) tNil)) [sv (K := K) x] [] (f x)) : EvW (tCB r (tCons ta tNil)) env os (fun z => ∃ x, P x ∧ z = f x) := .mk fun {b g h σ os2 Q} s q =>
  ha.run s fun v x g1 h1 p1 s1 e1 r1 => by
    obtain ⟨v', hv, z⟩ := hr x p1 ((s1.slots (arg1 r1)).drop (os := [])) fun u g3 h3 l3 r3 => q u (f x) g3 h3 ⟨x, p1, rfl⟩ (s1.le l3) (e1.trans l3.gg) r3
    cases hv
    exact z
theorem ew_cb2 {r : List V → Hp → VK → Prop} {P : α → Prop} {P' : β → Prop} {f : α → β → γ} (ha : EvW ta env os P) (hb : EvW tb env os P') (hr : ∀ x y, P x → P' y → Ev (tCB r (tCons (tVar 0) (tCons (tVar 1) tNil))) [sv (K := K) x, sv y] [] (f x y)) :
    EvW (tCB r (tCons ta (tCons tb tNil))) env os (fun z => ∃ x y, P x ∧ P' y ∧ z = f x y) := .mk fun {b g h σ os2 Q} s q =>
  ha.run s fun v x g1 h1 p1 s1 e1 r1 => hb.run s1 fun w y g2 h2 p2 s2 e2 r2 => by
    obtain ⟨v', hv, w', hw, z⟩ := hr x y p1 p2 ((s2.slots (arg2 (iα.mono e2 r1) r2)).drop (os := [])) fun u g3 h3 l3 r3 => q u (f x y) g3 h3 ⟨x, y, p1, p2, rfl⟩ (s2.le l3) (e1.trans (e2.trans l3.gg)) r3
    cases hv; cases hw
    exact z
theorem ew_pair {P : α → Prop} {P' : β → Prop} (ha : EvW ta env os P) (hb : EvW tb env os P') : EvW (tTup (tCons ta (tCons tb tNil))) env os (fun z : α × β => P z.1 ∧ P' z.2) := .mk fun {b g h σ os2 Q} s q =>
  ha.run s fun v x g1 h1 p1 s1 e1 r1 => hb.run s1 fun w y g2 h2 p2 s2 e2 r2 => by
    refine ⟨(by decide : 2 ≤ sizeLine), fun p hp => ?_⟩
    have le := Le.laid s2.gh hp (o := .tup [v, w])
    exact q _ (x, y) _ _ ⟨p1, p2⟩ (s2.le le) (e1.trans (e2.trans le.gg)) ⟨p, v, w, rfl, .inl (.inl upd_same), iα.mono (e2.trans le.gg) r1, iβ.mono le.gg r2⟩
/-! ### tests -/
theorem ewt_test {P : Bool → Prop} (ha : EvW ta env os P) : EvTW (tTest ta) env os P := .mk fun {b g h σ os2 Q} s q =>
  ha.run s fun v x g1 h1 p1 s1 e1 r1 => ⟨x, r1, q _ _ _ p1 s1 e1⟩
theorem ewt_B {P : Bool → Prop} (ha : EvW ta env os P) : EvTW (tB ta) env os P := .mk fun {b g h σ os2 Q} s q =>
  ha.run s fun v x g1 h1 p1 s1 e1 r1 => ⟨x, r1, q _ _ _ p1 s1 e1⟩
theorem ewt_any {P : Bool → Prop} (h : EvTW tt env os P) : EvTW tt env os (fun _ => True) := h.imp fun _ _ => trivial
theorem ewt_and (h1 : EvTW t env os fun _ => True) (h2 : EvTW u env os fun _ => True) : EvTW (tAnd t u) env os (fun _ => True) := .mk fun {b g h σ os2 Q} s q => h1.run s fun c g1 h' _ s1 e1 => by
  cases c with
  | true => exact h2.run s1 fun d g2 h2 _ s2 e2 => q d _ _ trivial s2 (e1.trans e2)
  | false => exact q _ _ _ trivial s1 e1
theorem ewt_or (h1 : EvTW t env os fun _ => True) (h2 : EvTW u env os fun _ => True) : EvTW (tOr t u) env os (fun _ => True) := .mk fun {b g h σ os2 Q} s q => h1.run s fun c g1 h' _ s1 e1 => by
  cases c with
  | true => exact q _ _ _ trivial s1 e1
  | false => exact h2.run s1 fun d g2 h2 _ s2 e2 => q d _ _ trivial s2 (e1.trans e2)
theorem ewt_not (h1 : EvTW t env os fun _ => True) : EvTW (tNot t) env os (fun _ => True) := .mk fun {b g h σ os2 Q} s q => h1.run s fun c g1 h' _ s1 e1 => q _ _ _ trivial s1 e1
theorem ew_if {P : α → Prop} (hc : EvTW tt env os fun _ => True) (ha : EvW ta env os P) (hb : EvW tb env os P) : EvW (tIf tt ta tb) env os P := .mk fun {b g h σ os2 Q} s q => hc.run s fun c g1 h1 _ s1 e1 => by
  cases c with
  | true => exact ha.run s1 fun v x g2 h2 p s2 e2 r => q v x g2 h2 p s2 (e1.trans e2) r
  | false => exact hb.run s1 fun v x g2 h2 p s2 e2 r => q v x g2 h2 p s2 (e1.trans e2) r
/-! ### arguments, calls -/
theorem eaw_nil : EvAW tNil env os (fun xs => xs = ([] : List (Slot K))) := .mk fun {b g h σ os2 Q} s q => q [] [] g h rfl s (Same.refl _) .nil
theorem eaw_cons {P : α → Prop} {PX : List (Slot K) → Prop} {ts : TA} (ha : EvW ta env os P) (hr : EvAW ts env os PX) : EvAW (tCons ta ts) env os (fun ys => ∃ x xs, P x ∧ PX xs ∧ ys = sv x :: xs) := .mk fun {b g h σ os2 Q} s q =>
  ha.run s fun v x g1 h1 p1 s1 e1 r1 => hr.run s1 fun vs xs g2 h2 p2 s2 e2 r2 => q _ (sv x :: xs) _ _ ⟨x, xs, p1, p2, rfl⟩ s2 (e1.trans e2) (.cons ⟨v, rfl, iα.mono e2 r1⟩ r2)
theorem EvA.w {ts : TA} {xs : List (Slot K)} (e : EvA ts env os xs) : EvAW ts env os (fun ys => ys = xs) := .mk fun {b g h σ os2 Q} s q =>
  e s.drop fun vs g' h' l r => q vs xs g' h' rfl (s.le l) l.gg r
/-- a call of a def that changes nothing, with arguments known in part -/
theorem ew_call {A : List (Slot K) → (γ → Prop) → Prop} {PX : List (Slot K) → Prop} {P : γ → Prop} {E : XK} {ts : TA} (h : EvAW ts env os PX) (hA : ∀ xs, PX xs → A xs P) : EvW (tCall (SpR K A) [] E ts) env os P := .mk fun {b g h' σ os2 Q} s q =>
  h.run s fun vs xs g1 h1 p1 s1 e1 r1 => ⟨g1, xs, P, hA xs p1, s1.gh, by rw [List.append_nil]; exact r1, fun v z g2 h2 hz l2 r2 => q v z g2 h2 hz (s1.le l2) (e1.trans l2.gg) r2⟩
/-- a def that changes what it is handed: A says which arguments and objects it takes, and what is wanted of the answer and the objects behind it -/
def SpW (K : PySem.W.Frag) {γ : Type} [iγ : Py K γ] (A : List (Slot K) → Os → (γ → Os → Prop) → Prop) : Sp := fun vs H Q _ =>
  ∃ (g : Hp) (xs : List (Slot K)) (os : Os) (P : γ → Os → Prop), A xs os P ∧ Same g H ∧ Ow g H os ∧ Args g vs xs ∧
    ∀ v z os' g' H', P z os' → (∀ p ∈ os', p.1 ∈ os.map (·.1) ∨ H p.1 = none) → LeW (os.map (·.1)) g H g' H' → Ow g' H' os' → iγ.R g' v z → Q v H'
/-- a call that leaves its objects as they are told -/
theorem ew_callW {A : List (Slot K) → Os → (γ → Os → Prop) → Prop} {PX : List (Slot K) → Prop} {P : γ → Prop} {E : XK} {ts : TA} (osc : Os) (h : EvAW ts env os PX) (hc : ∀ p ∈ osc, p ∈ os) (nd : osc.length ≤ 1 ∨ osc = os)
    (hA : ∀ xs, PX xs → A xs osc (fun z os' => P z ∧ os' = osc)) : EvW (tCall (SpW K A) [] E ts) env os P := .mk fun {b g h' σ os2 Q} s q =>
  h.run s fun vs xs g1 h1 p1 s1 e1 r1 => by
    have nd' : (osc.map (·.1)).Nodup := by
      rcases nd with n | n
      · match osc, n with
        | [], _ => simp
        | [p], _ => simp
      · subst n; exact (S0.drop s1).nd
    have hc' : ∀ p ∈ osc, p ∈ os ++ os2 := fun p hp => List.mem_append_left _ (hc p hp)
    refine ⟨g1, xs, osc, _, hA xs p1, s1.gh, s1.ow.sub hc' nd', by rw [List.append_nil]; exact r1, fun v z os' g2 h2 hz _ l2 o2 r2 => ?_⟩
    obtain ⟨hz, rfl⟩ := hz
    exact q v z g2 h2 hz (s1.afterSame hc' l2 o2) (e1.trans l2.gg) r2
/-! ### statements -/
theorem st_setW {P : α → Prop} (s : S0 b g h σ env os) (e : EvW te env os P) (k : ∀ x, P x → ∀ v g' h', S0 b g' h' (σ.set i (some v)) (env.set i (sv x)) os → D.nx (σ.set i (some v)) h') : tAsg te (gName i) D σ h :=
  e.go s fun v x g' h' p s' _ r => k x p v g' h' (s'.set ⟨v, rfl, r⟩)
theorem st_setNW {P : List α → Prop} (s : S0 b g h σ env os) (e : EvNW te env os P) (k : ∀ xs, P xs → ∀ l g' h', S0 b g' h' (σ.set i (some (.ref l))) (env.set i (sv (V.ref l))) (os ++ [(l, Own.lst K xs)]) → D.nx (σ.set i (some (.ref l))) h') : tAsg te (gName i) D σ h :=
  e.go s fun l vs xs g1 h1 p s1 _ hl r1 => k xs p l g1 _ ((s1.add (w := Own.lst K xs) hl ⟨vs, rfl, r1⟩).set ⟨_, rfl, rfl⟩)
theorem st_dropW {P : α → Prop} (s : S0 b g h σ env os) (e : EvW te env os P) (k : ∀ x, P x → ∀ g' h', S0 b g' h' σ env os → D.nx σ h') : tDrop te D σ h :=
  e.go s fun v x g' h' p s' _ _ => k x p g' h' s'
theorem st_retW {P : α → Prop} (s : S0 b g h σ env os) (e : EvW te env os P) (k : ∀ x, P x → ∀ v g' h', S0 b g' h' σ env os → iα.R g' v x → D.rt v h') : tRet te D σ h :=
  e.go s fun v x g' h' p s' _ r => k x p v g' h' s' r
theorem st_ifW {P : Bool → Prop} (s : S0 b g h σ env os) (e : EvTW t env os P) (k1 : P true → ∀ g' h', S0 b g' h' σ env os → t1 D σ h') (k2 : P false → ∀ g' h', S0 b g' h' σ env os → t2 D σ h') : tIfS t t1 t2 D σ h :=
  e.go s fun c g' h' p s' _ => by
    cases c with
    | true => exact k1 p g' h' s'
    | false => exact k2 p g' h' s'
/-- for name in range(e): e once, then as range(n) -/
theorem st_rangeW {tb : TS} {gt : TG} {P : Int → Prop} (s : S0 b g h σ env os) (e : EvW te env os P) (k : ∀ n, P n → ∀ g' h', S0 b g' h' σ env os → tFor (iRng1 (tCons (tC (.int n)) tNil)) gt tb D σ h') : tFor (iRng1 (tCons te tNil)) gt tb D σ h :=
  e.go s fun v n g' h' p s' _ r => by
    cases r
    exact k n p g' h' s'
theorem st_appendW {m : Nat} {l : Addr} {xs : List α} {P : α → Prop} (s : S0 b g h σ env os) (hx : env[i]? = some (.val V inferInstance (V.ref l))) (ho : os[m]? = some (l, Own.lst K xs)) (hl : xs.length < sizeLine) (e : EvW te env os P)
    (k : ∀ x, P x → ∀ g' h', S0 b g' h' σ env (os.set m (l, Own.lst K (xs ++ [x]))) → D.nx σ h') : tDrop (tBM K "list" rAppend (tVar i) (tCons te tNil)) D σ h := by
  unfold tDrop tBM
  refine ev_var hx s fun v g1 h1 l1 r1 => ?_
  cases r1
  have s1 := s.le l1
  obtain ⟨n1, o, e1, vs, rfl, p1⟩ := s1.own _ (List.mem_of_getElem? ho)
  refine ⟨.inl ⟨rfl, vs, SqL.of e1⟩, e.go s1 fun v x g2 h2 px s2 l2 r2 => ?_⟩
  obtain ⟨n2, o, e2, ws, rfl, p2⟩ := s2.own _ (List.mem_of_getElem? ho)
  exact ⟨l, ws, v, rfl, rfl, e2, by rw [p2.length]; exact hl, k x px g2 _ (s2.put (w' := Own.lst K (xs ++ [x])) ho ⟨_, rfl, paired_append p2 (.cons r2 .nil)⟩)⟩
/-- x[k] = e on an owned list -/
theorem st_setOW {m : Nat} {l : Addr} {xs : List α} {P : α → Prop} {PI : Int → Prop} (s : S0 b g h σ env os) (e : EvW te env os P) (hx : env[i]? = some (.val V inferInstance (V.ref l))) (ho : os[m]? = some (l, Own.lst K xs)) (hb : EvW tb env os PI) (hi : ∀ n, PI n → 0 ≤ n ∧ n < xs.length)
    (k : ∀ x n, P x → PI n → ∀ g' h', S0 b g' h' σ env (os.set m (l, Own.lst K (xs.set n.toNat x))) → D.nx σ h') : tAsg te (gSub (tVar i) tb rSetL) D σ h :=
  e.go s fun v x g1 h1' px s1 l1 r1 => ev_var hx s1 fun w g2 h2 l2 r2 => hb.go (s1.le l2) fun u n g3 h3 pn s3 l3 r3 => by
    cases r2
    obtain ⟨vs, e', p⟩ := own_seq s3 ho
    exact ⟨l, vs, n, n.toNat, rfl, r3, e', ixN_eq (hi n pn).1 (by rw [p.length]; exact (hi n pn).2), k x n px pn g3 _ (s3.put (w' := Own.lst K (xs.set n.toNat x)) ho ⟨_, rfl, paired_set (iα.mono (l2.gg.trans l3) r1) _ p⟩)⟩
end
end Lw
/-! Comprehensions whose items change owned objects; the promise of a def that changes its objects; owned dicts and mixed lists. -/
namespace Lw
open PySem PySem.Spec PyProof.Rows L2
section
variable {K : PySem.W.Frag}
variable {env : Env K} {os osc os' osz : Os} {ta tb te tx tl : TE} {tt t u : TT} {α β γ : Type} [iα : Py K α] [iβ : Py K β] [iγ : Py K γ]
variable {b : Bs} {g h g' h' : Hp} {σ : L2.St} {D : Ends} {t1 t2 : TS} {i j : Nat}
/-- what such a comprehension's block keeps -/
structure LwI (K : PySem.W.Frag) {β : Type} [iβ : Py K β] (env : Env K) (os : Os) (b : Bs) (ga ha : Hp) (σ : L2.St) (vs : List Nat) (D : Addr) (acc : List β) (H : Hp) : Prop where
  ex : ∃ g', S0 b g' H (L2.wipe σ vs) (wiped env vs) (os ++ [(D, Own.lst K acc)]) ∧ Same ga g'
  dn : ha D = none
  bn : b.h D = none
theorem LwI.start {ga ha : Hp} {Dd : Addr} (s : S0 b ga ha σ env os) (hd : ha Dd = none) (vs : List Nat) : LwI K (β := β) env os b ga ha σ vs Dd [] (upd ha Dd (.lst [])) where
  ex := ⟨ga, (s.wipe.add (w := Own.lst K ([] : List β)) hd ⟨[], rfl, .nil⟩), Same.refl _⟩
  dn := hd
  bn := by
    cases w : b.h Dd with
    | none => rfl
    | some u => exact absurd hd (s.th _ (some_ne_none w))
theorem LwI.done {ga ha H : Hp} {vs : List Nat} {Dd : Addr} {acc : List β} {Q : VK} (s0 : S0 b ga ha σ env os) (I : LwI K env os b ga ha σ vs Dd acc H)
    (q : ∀ l ws g' h', S0 b g' h' σ env os → Same ga g' → h' l = none → Paired (iβ.R g') ws acc → Q (.ref l) (upd h' l (.lst ws))) : Q (.ref Dd) H := by
  obtain ⟨g', s, e1⟩ := I.ex
  obtain ⟨nD, o, eD, ws, rfl, p⟩ := s.own (Dd, Own.lst K acc) (by simp)
  have hH : H = upd (fun a => if a = Dd then none else H a) Dd (.lst ws) := by
    funext a
    by_cases ha' : a = Dd
    · subst ha'; rw [upd_same]; exact eD
    · rw [upd_ne ha']; exact (if_neg ha').symm
  have sd := s.drop
  have nin : ∀ p ∈ os, p.1 ≠ Dd := fun p hp z => by
    have := s.nd
    rw [List.map_append] at this
    exact (List.nodup_append.mp this).2.2 p.1 (List.mem_map_of_mem hp) Dd (by simp) z
  have at_ : ∀ {a : Addr}, a ≠ Dd → (fun a => if a = Dd then none else H a) a = H a := fun hz => if_neg hz
  rw [hH]
  refine q Dd ws g' _ ⟨fun a o z => ?_, s0.len, fun n t e => Slot.ok_mono e1 (s0.sl n t e), fun p hp => ?_, sd.nd, sd.gg, fun a o n e => ?_, fun a n => ?_, sd.new, sd.ol⟩ e1 (if_pos rfl) p
  · have : a ≠ Dd := fun w => by rw [w, show g' Dd = none from nD] at z; cases z
    show (if a = Dd then none else H a) = some o
    rw [if_neg this]; exact sd.gh a o z
  · obtain ⟨n1, u, e, r⟩ := sd.own p hp
    exact ⟨n1, u, by show (if p.1 = Dd then none else H p.1) = some u; rw [if_neg (nin p hp)]; exact e, r⟩
  · have : a ≠ Dd := fun w => by rw [w, I.bn] at e; cases e
    show (if a = Dd then none else H a) = some o
    rw [if_neg this]; exact sd.fr a o n e
  · have : a ≠ Dd := fun w => n (by rw [w, I.bn])
    show (if a = Dd then none else H a) ≠ none
    rw [if_neg this]; exact sd.th a n
theorem LwI.turn {ga ha H : Hp} {vs : List Nat} {Dd : Addr} {acc : List β} {gt : TG} {f : Env K → α → Env K} {v : V} {x : α} {c : Bool} {P : β → Prop} {Nx : Hp → Prop} (I : LwI K env os b ga ha σ vs Dd acc H) (hg : TgtF (K := K) gt vs f)
    (rx : ∀ g', Same ga g' → iα.R g' v x) (ht : EvT tt (f (wiped env vs) x) os c) (he : c = true → EvW te (f (wiped env vs) x) os P) (hl : acc.length < sizeLine) (hw : L2.wipe (L2.wipe σ vs) vs = L2.wipe σ vs)
    (hN : ∀ y H', (c = true → P y) → LwI K env os b ga ha σ vs Dd (if c = true then acc ++ [y] else acc) H' → Nx H') (d : β) :
    gt v (L2.wipe σ vs) H fun σ2 H2 => L2.wipe σ2 vs = L2.wipe σ vs ∧ tt σ2 H2 fun b H3 => if b = true then te σ2 H3 fun y H4 => ∃ acc, H4 Dd = some (.lst acc) ∧ acc.length < sizeLine ∧ Nx (upd H4 Dd (.lst (acc ++ [y]))) else Nx H3 := by
  obtain ⟨g', s, e1⟩ := I.ex
  refine hg s (rx g' e1) fun σ2 w2 s2 => ⟨w2.trans hw, ht s2.drop fun g3 h3 l3 => ?_⟩
  cases c with
  | false => exact hN d h3 (fun z => nomatch z) ⟨⟨g3, s.le l3, e1.trans l3.gg⟩, I.dn, I.bn⟩
  | true =>
    refine (he rfl).run (s2.le l3) fun w y g4 h4 py s4 e4 r4 => ?_
    obtain ⟨nD, o, eD, ws, rfl, p⟩ := s4.own (Dd, Own.lst K acc) (by simp)
    refine ⟨ws, eD, by rw [p.length]; exact hl, hN y _ (fun _ => py) ⟨⟨g4, ?_, (e1.trans l3.gg).trans e4⟩, I.dn, I.bn⟩⟩
    have s5 : S0 b g4 h4 (L2.wipe σ vs) (wiped env vs) (os ++ [(Dd, Own.lst K acc)]) :=
      { s4 with len := s.len, sl := fun n t e => Slot.ok_mono (l3.gg.trans e4) (s.sl n t e) }
    have := s5.put (w' := Own.lst K (acc ++ [y])) (o := .lst (ws ++ [w])) last_at ⟨_, rfl, paired_append p (.cons r4 .nil)⟩
    rw [last_set] at this
    exact this
theorem filter_take1 {p : α → Bool} {xs : List α} {n : Nat} {x : α} (h : xs[n]? = some x) : (xs.take (n + 1)).filter p = (xs.take n).filter p ++ if p x = true then [x] else [] := by
  rw [List.take_add_one, h, List.filter_append]
  cases hp : p x <;> simp [hp]
theorem paired_snoc {P : α → β → Prop} {p : α → Bool} {xs : List α} {n : Nat} {x : α} {acc : List β} {y : β} (h : xs[n]? = some x) (pr : Paired (fun y x => P x y) acc ((xs.take n).filter p)) (hy : p x = true → P x y) :
    Paired (fun y x => P x y) (if p x = true then acc ++ [y] else acc) ((xs.take (n + 1)).filter p) := by
  rw [filter_take1 h]
  by_cases e : p x = true
  · rw [if_pos e, if_pos e]; exact paired_append pr (.cons (hy e) .nil)
  · rw [if_neg e, if_neg e, List.append_nil]; exact pr
theorem small_filter {p : α → Bool} {xs : List α} {n : Nat} {x : α} {acc : List β} {F : β → α → Prop} (h : xs[n]? = some x) (pr : Paired F acc ((xs.take n).filter p)) (hl : xs.length ≤ 1000000) : acc.length < sizeLine := by
  rw [pr.length]
  refine Nat.lt_of_le_of_lt (Nat.le_trans (List.length_filter_le _ _) (List.length_take_le _ _)) ?_
  exact Nat.lt_of_le_of_lt (by
    have := (List.getElem?_eq_some_iff.mp h).1
    omega) (by decide : 1000000 < sizeLine)
/-- [e for target in a list of xs if ..], e's value known in part -/
theorem ew_lcL {xs : List α} {vs : List Nat} {gt : TG} {f : Env K → α → Env K} {p : α → Bool} {P : α → β → Prop} (d : β) (hg : TgtF (K := K) gt vs f) (hx : Ev tl env os xs) (ht : ∀ x ∈ xs, EvT tt (f (wiped env vs) x) os (p x))
    (he : ∀ x ∈ xs, p x = true → EvW te (f (wiped env vs) x) os (P x)) (hl : xs.length ≤ 1000000) : EvNW (tLc (iList K tl) gt tt te vs) env os (fun ys => Paired (fun y x => P x y) ys (xs.filter p)) := .mk fun {b g h σ os2 Q} s q => by
  refine hx s.drop fun v g1 h1 l1 r1 => ?_
  obtain ⟨a, us, rfl, hq, hp⟩ := r1
  have s1 := s.le l1
  refine ⟨a, rfl, ⟨us, l1.gh.seq hq⟩, fun Dd hD => lc_list (K := K) (a := a) (xs := us) (fun n H => ∃ acc : List β, Paired (fun y x => P x y) acc ((xs.take n).filter p) ∧ LwI K env (os ++ os2) b g1 h1 σ vs Dd acc H) ⟨[], .nil, LwI.start s1 hD vs⟩ (fun n H _ ⟨acc, _, I⟩ => ?_) (fun n x H hn ⟨acc, pr, I⟩ => ?_) (fun H ⟨acc, pr, I⟩ => ?_)⟩
  · obtain ⟨g', s', e1⟩ := I.ex
    exact (e1.trans s'.gh).seq hq
  · obtain ⟨y, hy, ry⟩ := paired_getL hp hn
    have hm := List.mem_of_getElem? hy
    refine I.turn (P := P y) hg (fun g' e => iα.mono e ry) ?_ ?_ (small_filter hy pr hl) wipe_wipe (fun z H' pz I' => ⟨_, paired_snoc hy pr pz, I'⟩) d
    · exact fun {b g h σ Q} s q => ht y hm s.drop fun g' h' l => q g' h' l
    · exact fun hc => .mk fun {b g h σ os3 Q} s q => (he y hm hc).run (os2 := os2 ++ os3) (by rw [← List.append_assoc]; exact s) fun v x g' h' px s' e r => q v x g' h' px (by rw [List.append_assoc]; exact s') e r
  · rw [hp.length, List.take_length] at pr
    exact I.done s1 fun l ws g' h' s' e hn' r => q l ws acc g' h' pr s' (l1.gg.trans e) hn' r
/-- .. of range(n) -/
theorem ew_lcR {PN : Int → Prop} {P : Int → β → Prop} (d : β) (hx : EvW tl env os PN) (hn : ∀ n, PN n → n ≤ 1000000 ∧ -(2 ^ 62) ≤ n)
    (he : ∀ n, PN n → ∀ x, 0 ≤ x → x < n → EvW te ((wiped env [i]).set i (sv x)) os (P x)) : EvNW (tLc (iRng1 (tCons tl tNil)) (gName i) tYes te [i]) env os (fun ys => ∃ n, PN n ∧ Paired (fun y x => P x y) ys (upto n.toNat)) := .mk fun {b g h σ os2 Q} s q => by
  refine hx.run s fun v n g1 h1 pn s1 e1 r1 => ?_
  cases r1
  have hl := hn n pn
  refine ⟨n, rfl, hl.2, by omega, fun Dd hD => lc_range (lo := 0) (n := n.toNat) (fun k H => ∃ acc : List β, Paired (fun y x => P x y) acc (((upto n.toNat).take k).filter fun _ => true) ∧ LwI K env (os ++ os2) b g1 h1 σ [i] Dd acc H) ⟨[], .nil, LwI.start s1 hD [i]⟩ (fun k H hk ⟨acc, pr, I⟩ => ?_) (fun H ⟨acc, pr, I⟩ => ?_)⟩
  · have hy := upto_get hk
    have hm := mem_upto.mp (List.mem_of_getElem? hy)
    refine I.turn (P := P k) (x := (k : Int)) (tgt_name (α := Int)) (fun g' e => ?_) et_yes ?_ (small_filter hy pr (by rw [upto_len]; omega)) wipe_wipe (fun z H' pz I' => ⟨_, paired_snoc (p := fun _ => true) hy pr pz, I'⟩) d
    · show V.int (0 + (k : Int)) = V.int (k : Int)
      rw [Int.zero_add]
    · exact fun hc => .mk fun {b g h σ os3 Q} s q => (he n pn k hm.1 (by omega)).run (os2 := os2 ++ os3) (by rw [← List.append_assoc]; exact s) fun v x g' h' px s' e r => q v x g' h' px (by rw [List.append_assoc]; exact s') e r
  · rw [List.take_of_length_le (by rw [upto_len]; exact Nat.le_refl _), List.filter_eq_self.mpr (fun _ _ => rfl)] at pr
    exact I.done s1 fun l ws g' h' s' e hn' r => q l ws acc g' h' ⟨n, pn, pr⟩ s' (e1.trans e) hn' r
theorem paired_all {F : α → β → Prop} {xs : List α} {ys : List β} (h : Paired F xs ys) : ∀ x ∈ xs, ∃ y ∈ ys, F x y := by
  induction h with
  | nil => intro x hx; cases hx
  | cons r _ ih =>
    intro x hx
    rcases List.mem_cons.mp hx with rfl | hx
    · exact ⟨_, List.mem_cons_self, r⟩
    · obtain ⟨y, hy, q⟩ := ih x hx
      exact ⟨y, List.mem_cons_of_mem _ hy, q⟩
/-! ### promises -/
theorem S0.startW {N : List Str} {vs : List V} {xs : List (Slot K)} {H : Hp} (gh : Same g H) (r : Args g vs xs) (o : Ow g H os) : S0 ⟨os.map (·.1), g, H⟩ g H (L2.start N vs) (xs ++ List.replicate (N.length - xs.length) .unk) os where
  gh := gh
  len := (S0.start (N := N) gh r).len
  sl := (S0.start (N := N) gh r).sl
  own := o.own
  nd := o.nd
  gg := Same.refl _
  fr := fun a o _ q => q
  th := fun a n => n
  new := fun a n _ => n
  ol := fun p hp => .inr (List.mem_map_of_mem hp)
end
section
variable {fa : List He.Fa} {fn : List He.DefD} {ex : PySem.W.Frag → Bool} {P : Program} {w : World} {K : PySem.W.Frag} {mg : Str → Option Value} {base : Heap} {γ : Type} [iγ : Py K γ]
/-- a def that changes its objects keeps its promise -/
theorem okWD {x qual : Str} {st : Stmt} {f : Addr} {fd : FuncData} {N ps : List Str} {k : Nat} {A : List (Slot K) → Os → (γ → Os → Prop) → Prop} {dvs : List V} {kws : List (Str × V)} (F : FunD K x qual (defArgs st) (defBody st) (defScope st) dvs kws f fd) (S : FnScope N ps (defScope st)) (hlen : ∀ xs os P', A xs os P' → xs.length = ps.length)
    (hb : ∀ (cdv : Value) (Ar : Around) (outer : List PySem.Env) (s : Shared) (H : Hp) (E : XK), Room k (Ar.deeper (envOfC qual (defScope st) s.heap.objs.size f cdv)) → ∀ (xs : List (Slot K)) (os : Os) (P' : γ → Os → Prop), A xs os P' →
      ∃ t, PSs (cxOf CX0 P w K mg base N qual (defScope st) f cdv Ar outer s H E).nox (defBody st) t ∧
        ∀ (g : Hp) (σ : L2.St) (Q : VK), S0 ⟨os.map (·.1), g, H⟩ g H σ (xs ++ List.replicate (N.length - xs.length) .unk) os →
          (∀ v z g' h' σ' env' os' os2, P' z os' → (∀ p ∈ os', p ∈ os2) → S0 ⟨os.map (·.1), g, H⟩ g' h' σ' (env' : Env K) os2 → (os'.map (·.1)).Nodup → iγ.R g' v z → Q v h') → t { nx := fun _ H' => Q .non H', rt := Q } σ H) : FnOk P w K mg base CX0 (k + 1) f fd ps (SpW K A) := by
  refine F.ok S (fun vs H Q E h => ?_) (fun cdv Ar outer s H vs Q E hr h => ?_)
  · obtain ⟨g, xs, os, P', hA, _, _, r, _⟩ := h
    rw [args_len r]
    exact hlen xs os P' hA
  · obtain ⟨g, xs, os, P', hA, gh, o, r, q⟩ := h
    obtain ⟨t, ht, hq⟩ := hb cdv Ar outer s H E hr xs os P' hA
    refine ⟨t, ht.nox, hq g _ Q (S0.startW gh r o) fun v z g' h' σ' env' os' os2 hz hs s' nd rz => q v z os' g' h' hz (fun p hp => ?_) ⟨s'.gg, s'.fr, s'.gh, s'.th, s'.new⟩ (s'.ow.sub hs nd) rz⟩
    rcases s'.ol p (hs p hp) with w | w
    · exact .inr w
    · exact .inl w
end
end Lw
/-! Owned dicts and mixed lists; calls that change what they are handed. -/
namespace Lw
open PySem PySem.Spec PyProof.Rows L2
section
variable {K : PySem.W.Frag}
variable {env : Env K} {os osc os' osz rest : Os} {ta tb te tx tl : TE} {tt t u : TT} {α β γ : Type} [iα : Py K α] [iβ : Py K β] [iγ : Py K γ]
variable {b : Bs} {g h g' h' : Hp} {σ : L2.St} {D : Ends} {t1 t2 : TS} {i j m : Nat} {l : Addr}
theorem os_other (nd : (os.map (·.1)).Nodup) {k m : Nat} {p q : Addr × Own} (hp : os[k]? = some p) (hq : os[m]? = some q) (ne : k ≠ m) : p.1 ≠ q.1 := fun z => by
  have a1 : (os.map (·.1))[k]? = some p.1 := by rw [List.getElem?_map, hp]; rfl
  have a2 : (os.map (·.1))[m]? = some p.1 := by rw [List.getElem?_map, hq, z]; rfl
  exact ne ((List.getElem?_inj (List.getElem?_eq_some_iff.mp a1).1 nd).mp (a1.trans a2.symm))
theorem set_keys {w : Own} {w' : Own} (e : os[m]? = some (l, w)) : (os.set m (l, w')).map (·.1) = os.map (·.1) := by
  rw [List.map_set]
  apply List.ext_getElem?
  intro j
  by_cases hj : m = j
  · subst hj
    rw [List.getElem?_set_self (by rw [List.length_map]; exact (List.getElem?_eq_some_iff.mp e).1), List.getElem?_map, e]
    rfl
  · rw [List.getElem?_set_ne hj]
/-- what is told of an owned object is told in another way -/
theorem S0.tell {w w' : Own} (s : S0 b g h σ env os) (e : os[m]? = some (l, w)) (q : ∀ o, w.P g o → w'.P g o) : S0 b g h σ env (os.set m (l, w')) := by
  have mem : ∀ p ∈ os.set m (l, w'), p = (l, w') ∨ p ∈ os := fun p hp => by
    rcases List.mem_or_eq_of_mem_set hp with z | z
    · exact .inr z
    · exact .inl z
  have hm := List.mem_of_getElem? e
  refine { s with own := fun p hp => ?_, nd := by rw [set_keys e]; exact s.nd, ol := fun p hp => ?_ }
  · rcases mem p hp with rfl | z
    · obtain ⟨n, o, e1, r⟩ := s.own _ hm
      exact ⟨n, o, e1, q o r⟩
    · exact s.own p z
  · rcases mem p hp with rfl | z
    · exact s.ol (l, w) hm
    · exact s.ol p z
/-- one of many shapes -/
def Own.ex {ι : Type} (ok : ι → Prop) (W : ι → Own) : Own := ⟨fun g o => ∃ p, ok p ∧ (W p).P g o, fun {g g' o} e ⟨p, h1, h2⟩ => ⟨p, h1, (W p).mono e h2⟩⟩
theorem S0.opened {ι : Type} {ok : ι → Prop} {W : ι → Own} (s : S0 b g h σ env os) (e : os[m]? = some (l, Own.ex ok W)) : ∃ p, ok p ∧ S0 b g h σ env (os.set m (l, W p)) := by
  obtain ⟨n, o, e1, p, h1, h2⟩ := s.own _ (List.mem_of_getElem? e)
  refine ⟨p, h1, ?_⟩
  have hl := (List.getElem?_eq_some_iff.mp e).1
  have mem : ∀ q ∈ os.set m (l, W p), q = (l, W p) ∨ q ∈ os := fun q hq => by
    rcases List.mem_or_eq_of_mem_set hq with z | z
    · exact .inr z
    · exact .inl z
  refine { s with own := fun q hq => ?_, nd := by rw [set_keys e]; exact s.nd, ol := fun q hq => ?_ }
  · rcases mem q hq with rfl | z
    · exact ⟨n, o, e1, h2⟩
    · exact s.own q z
  · rcases mem q hq with rfl | z
    · exact s.ol (l, Own.ex ok W) (List.mem_of_getElem? e)
    · exact s.ol q z
theorem S0.closed {ι : Type} {ok : ι → Prop} {W : ι → Own} {p : ι} (s : S0 b g h σ env os) (e : os[m]? = some (l, W p)) (hp : ok p) : S0 b g h σ env (os.set m (l, Own.ex ok W)) :=
  s.tell e fun o q => ⟨p, hp, q⟩
theorem S0.perm (s : S0 b g h σ env os) (hp : os.Perm os') : S0 b g h σ env os' :=
  { s with own := fun p q => s.own p (hp.mem_iff.mpr q), nd := (hp.map _).nodup s.nd, ol := fun p q => s.ol p (hp.mem_iff.mpr q) }
/-- an owned list that is not the caller's becomes a value -/
theorem S0.freezeN {xs : List α} (s : S0 b g h σ env os) (hx : env[i]? = some (.val V inferInstance (V.ref l))) (ho : os[m]? = some (l, Own.lst K xs)) (nl : l ∉ b.ls) : ∃ g', S0 b g' h σ (env.set i (sv xs)) (os.eraseIdx m) := by
  obtain ⟨n1, o, e1, vs, rfl, p1⟩ := s.own _ (List.mem_of_getElem? ho)
  have hm := List.mem_of_getElem? ho
  have nb : b.h l = none := (s.ol _ hm).resolve_right nl
  have lg : Same g (upd g l (.lst vs)) := fun c u q => by rw [upd_ne (ne_of_none q n1)]; exact q
  have nin : ∀ p ∈ os.eraseIdx m, p ∈ os ∧ p.1 ≠ l := fun p hp => by
    obtain ⟨j, hj, hjm⟩ := List.mem_eraseIdx_iff_getElem?.mp hp
    exact ⟨List.mem_of_getElem? hjm, os_other s.nd hjm ho hj⟩
  refine ⟨upd g l (.lst vs), fun c u q => ?_, by rw [List.length_set]; exact s.len, fun n t e => ?_, fun p hp => ?_, ?_, s.gg.trans lg, s.fr, s.th, fun a n m => ?_, fun p hp => s.ol p (nin p hp).1⟩
  · by_cases hc : c = l
    · subst hc; rw [upd_same] at q; cases q; exact e1
    · rw [upd_ne hc] at q; exact s.gh _ _ q
  · by_cases hn : i = n
    · subst hn
      have hl : i < env.length := (List.getElem?_eq_some_iff.mp hx).1
      rw [List.getElem?_set_self hl] at e
      cases e
      obtain ⟨v, q1, q2⟩ := s.sl i _ hx
      cases q2
      exact ⟨_, q1, l, vs, rfl, .inl (.inl upd_same), pr_mono lg p1⟩
    · rw [List.getElem?_set_ne hn] at e
      exact Slot.ok_mono lg (s.sl n t e)
  · obtain ⟨hp1, hp2⟩ := nin p hp
    obtain ⟨n2, o2, e2, q2⟩ := s.own p hp1
    exact ⟨by rw [upd_ne hp2]; exact n2, o2, e2, p.2.mono lg q2⟩
  · have : ((os.eraseIdx m).map (·.1)).Sublist (os.map (·.1)) := (List.eraseIdx_sublist os m).map _
    exact this.nodup s.nd
  · rw [upd_ne (fun z => by rw [z, nb] at m; exact m rfl)]
    exact s.new a n m
/-- .. where the caller's objects stand elsewhere in os -/
theorem S0.freezeW {xs : List α} (s : S0 b g h σ env os) (hx : env[i]? = some (.val V inferInstance (V.ref l))) (ho : os[m]? = some (l, Own.lst K xs)) (n : Nat) (hb : b.ls = (os.take n).map (·.1)) (hn : n ≤ m) : ∃ g', S0 b g' h σ (env.set i (sv xs)) (os.eraseIdx m) :=
  s.freezeN hx ho fun z => by
    rw [hb] at z
    obtain ⟨p, hp, e⟩ := List.mem_map.mp z
    obtain ⟨k, hk⟩ := List.mem_iff_getElem?.mp hp
    have hkn : k < n := by
      have := (List.getElem?_eq_some_iff.mp hk).1
      rw [List.length_take] at this
      omega
    rw [List.getElem?_take_of_lt hkn] at hk
    exact os_other s.nd hk ho (by omega) e

/-! ### mixed lists -/
def Own.lsl (xs : List (Slot K)) : Own := ⟨fun g o => ∃ vs, o = .lst vs ∧ Args g vs xs, fun {g g' o} e ⟨vs, h1, h2⟩ => ⟨vs, h1, args_mono e h2⟩⟩
theorem own_lsl {xs : List (Slot K)} (s : S0 b g h σ env os) (ho : os[m]? = some (l, Own.lsl xs)) : ∃ vs, h l = some (.lst vs) ∧ Args g vs xs := by
  obtain ⟨n1, o, e1, vs, rfl, p1⟩ := s.own _ (List.mem_of_getElem? ho)
  exact ⟨vs, e1, p1⟩
theorem args_at {vs : List V} {xs : List (Slot K)} {n : Nat} {x : α} (r : Args g vs xs) (e : xs[n]? = some (sv x)) : ∃ v, vs[n]? = some v ∧ iα.R g v x := by
  obtain ⟨v, h1, h2⟩ := args_get r e
  exact ⟨v, h1, h2⟩
theorem args_set {vs : List V} {xs : List (Slot K)} {v : V} {x : α} (r : iα.R g v x) : ∀ (n : Nat), Args g vs xs → Args g (vs.set n v) (xs.set n (sv x)) := by
  intro n q
  induction q generalizing n with
  | nil => exact .nil
  | cons h t ih =>
    cases n with
    | zero => exact .cons ⟨v, rfl, r⟩ t
    | succ n => exact .cons h (ih n)
theorem atI_nat {xs : List V} {n : Nat} {v : V} (h : xs[n]? = some v) : atI xs (n : Int) = some v := by
  have hl := (List.getElem?_eq_some_iff.mp h).1
  unfold atI
  rw [ixN_eq (by omega) (by omega)]
  exact h
/-- x[n], n a number that stands in the text -/
theorem ev_ixH {xs : List (Slot K)} {x : α} {n : Nat} (hx : env[i]? = some (.val V inferInstance (V.ref l))) (ho : os[m]? = some (l, Own.lsl xs)) (hn : xs[n]? = some (sv x)) : Ev (tOp (rIxL K) (tVar i) (tC (.int (n : Int)))) env os x := fun {b g h σ Q} s q =>
  ev_var hx s fun v g1 h1 l1 r1 => by
    cases r1
    obtain ⟨vs, e, p⟩ := own_lsl (s.le l1) ho
    obtain ⟨v, e', r⟩ := args_at p hn
    exact ⟨l, vs, n, v, rfl, rfl, SqL.of e, atI_nat e', q _ _ _ l1 r⟩
theorem ev_lenH {xs : List (Slot K)} (hx : env[i]? = some (.val V inferInstance (V.ref l))) (ho : os[m]? = some (l, Own.lsl xs)) : Ev (tCB (fun xs H Q => ∃ p ys, xs = [V.ref p] ∧ (SqL K H p ys ∨ SqT K H p ys) ∧ Q (.int ys.length) H) (tCons (tVar i) tNil)) env os (xs.length : Int) := fun {b g h σ Q} s q =>
  ev_var hx s fun v g1 h1 l1 r1 => by
    cases r1
    obtain ⟨vs, e, p⟩ := own_lsl (s.le l1) ho
    exact ⟨l, vs, rfl, .inl (SqL.of e), q _ _ _ l1 (by rw [args_len p]; rfl)⟩
theorem st_setH {xs : List (Slot K)} {x : α} {n : Nat} (s : S0 b g h σ env os) (e : Ev te env os x) (hx : env[i]? = some (.val V inferInstance (V.ref l))) (ho : os[m]? = some (l, Own.lsl xs)) (hn : n < xs.length)
    (k : ∀ g' h', S0 b g' h' σ env (os.set m (l, Own.lsl (xs.set n (sv x)))) → D.nx σ h') : tAsg te (gSub (tVar i) (tC (.int (n : Int))) rSetL) D σ h :=
  e s fun v g1 h1' l1 r1 => ev_var hx (s.le l1) fun w g2 h2 l2 r2 => by
    cases r2
    have s3 := (s.le l1).le l2
    obtain ⟨vs, e', p⟩ := own_lsl s3 ho
    exact ⟨l, vs, n, n, rfl, rfl, e', ixN_eq (by omega) (by rw [args_len p]; omega), k g2 _ (s3.put (w' := Own.lsl (xs.set n (sv x))) ho ⟨_, rfl, args_set (iα.mono l2.gg r1) _ p⟩)⟩
/-- x = [..], mixed, to be changed later -/
theorem st_newH {xs : List (Slot K)} {ts : TA} (s : S0 b g h σ env os) (e : EvA ts env os xs) (hl : xs.length ≤ 100000) (k : ∀ l g' h', S0 b g' h' (σ.set i (some (.ref l))) (env.set i (sv (V.ref l))) (os ++ [(l, Own.lsl xs)]) → D.nx (σ.set i (some (.ref l))) h') : tAsg (tLst ts) (gName i) D σ h :=
  e s fun vs g1 h1 l1 r1 => ⟨by rw [args_len r1]; exact Nat.le_trans hl (by decide), fun p hp => k p g1 _ (((s.le l1).add (w := Own.lsl xs) hp ⟨vs, rfl, r1⟩).set ⟨_, rfl, rfl⟩)⟩
theorem st_retH {xs : List (Slot K)} {ts : TA} (s : S0 b g h σ env os) (e : EvA ts env os xs) (hl : xs.length ≤ 100000) (k : ∀ l g' h', S0 b g' h' σ env (os ++ [(l, Own.lsl xs)]) → D.rt (.ref l) h') : tRet (tLst ts) D σ h :=
  e s fun vs g1 h1 l1 r1 => ⟨by rw [args_len r1]; exact Nat.le_trans hl (by decide), fun p hp => k p g1 _ ((s.le l1).add (w := Own.lsl xs) hp ⟨vs, rfl, r1⟩)⟩

/-! ### dicts with texts and ints as keys -/
inductive KR (g : Hp) : List (Key × V) → List (Key × Slot K) → Prop where
  | nil : KR g [] []
  | cons {a : Key × V} {c : Key × Slot K} {vs : List (Key × V)} {kvs : List (Key × Slot K)} : (a.1 = c.1 ∧ c.2.ok g (some a.2)) → KR g vs kvs → KR g (a :: vs) (c :: kvs)
theorem kr_snoc {vs : List (Key × V)} {kvs : List (Key × Slot K)} {a : Key × V} {c : Key × Slot K} (p : KR g vs kvs) (r : a.1 = c.1 ∧ c.2.ok g (some a.2)) : KR g (vs ++ [a]) (kvs ++ [c]) := by
  induction p with
  | nil => exact .cons r .nil
  | cons q _ ih => exact .cons q ih
theorem kr_mono {vs : List (Key × V)} {kvs : List (Key × Slot K)} (e : Same g g') (p : KR g vs kvs) : KR g' vs kvs := by
  induction p with
  | nil => exact .nil
  | cons q _ ih => exact .cons ⟨q.1, Slot.ok_mono e q.2⟩ ih
theorem kr_len {vs : List (Key × V)} {kvs : List (Key × Slot K)} (p : KR g vs kvs) : vs.length = kvs.length := by
  induction p with
  | nil => rfl
  | cons q _ ih => rw [List.length_cons, List.length_cons, ih]
def getS (kvs : List (Key × Slot K)) (k : Key) : Option (Slot K) := (kvs.find? fun kv => decide (kv.1 = k)).map (·.2)
def putS (kvs : List (Key × Slot K)) (k : Key) (v : Slot K) : List (Key × Slot K) := if (kvs.any fun kv => decide (kv.1 = k)) = true then kvs.map (fun kv => if kv.1 = k then (kv.1, v) else kv) else kvs ++ [(k, v)]
theorem kf_get {vs : List (Key × V)} {kvs : List (Key × Slot K)} {k : Key} {t : Slot K} (p : KR g vs kvs) (e : getS kvs k = some t) : ∃ v, valV vs k = some v ∧ t.ok g (some v) := by
  unfold getS at e
  unfold valV
  induction p with
  | nil => cases e
  | @cons a c as cs r _ ih =>
    by_cases hk : c.1 = k
    · rw [List.find?_cons_of_pos (by simpa using hk)] at e
      rw [List.find?_cons_of_pos (by simpa using r.1.trans hk)]
      cases e
      exact ⟨a.2, rfl, r.2⟩
    · rw [List.find?_cons_of_neg (by simpa using hk)] at e
      rw [List.find?_cons_of_neg (by rw [decide_eq_true_iff, r.1]; exact hk)]
      exact ih e
theorem kf_any {vs : List (Key × V)} {kvs : List (Key × Slot K)} (p : KR g vs kvs) (k : Key) : (vs.any fun kv => decide (kv.1 = k)) = kvs.any fun kv => decide (kv.1 = k) := by
  induction p with
  | nil => rfl
  | cons r _ ih => rw [List.any_cons, List.any_cons, ih, r.1]
theorem kf_put {vs : List (Key × V)} {kvs : List (Key × Slot K)} {k : Key} {v : V} {t : Slot K} (p : KR g vs kvs) (r : t.ok g (some v)) : KR g (putK vs k v) (putS kvs k t) := by
  unfold putK putS
  rw [kf_any p k]
  split
  · rename_i hany
    clear hany
    induction p with
    | nil => exact .nil
    | @cons a c as cs q _ ih =>
      refine .cons ?_ ih
      show (if a.1 = k then (a.1, v) else a).1 = (if c.1 = k then (c.1, t) else c).1 ∧ (if c.1 = k then (c.1, t) else c).2.ok g (some (if a.1 = k then (a.1, v) else a).2)
      rw [q.1]
      by_cases hk : c.1 = k
      · rw [if_pos hk, if_pos hk]; exact ⟨rfl, r⟩
      · rw [if_neg hk, if_neg hk]; exact q
  · exact kr_snoc p ⟨rfl, r⟩
def Own.dic (kvs : List (Key × Slot K)) : Own := ⟨fun g o => ∃ vs, o = .dK vs ∧ KR g vs kvs, fun {g g' o} e ⟨vs, h1, h2⟩ => ⟨vs, h1, kr_mono e h2⟩⟩
theorem own_dic {kvs : List (Key × Slot K)} (s : S0 b g h σ env os) (ho : os[m]? = some (l, Own.dic kvs)) : ∃ vs, h l = some (.dK vs) ∧ KR g vs kvs := by
  obtain ⟨n1, o, e1, vs, rfl, p1⟩ := s.own _ (List.mem_of_getElem? ho)
  exact ⟨vs, e1, p1⟩
/-- d['key'] -/
theorem ev_dgetO {kvs : List (Key × Slot K)} {x : α} {k : Str} (hx : env[i]? = some (.val V inferInstance (V.ref l))) (ho : os[m]? = some (l, Own.dic kvs)) (e : getS kvs (.inr k) = some (sv x)) : Ev (tDGet (tVar i) (tC (.str k))) env os x := fun {b g h σ Q} s q =>
  ev_var hx s fun v g1 h1 l1 r1 => by
    cases r1
    obtain ⟨vs, e1, p⟩ := own_dic (s.le l1) ho
    obtain ⟨v, e2, v', e3, r⟩ := kf_get p e
    cases e3
    refine ⟨l, v, rfl, ?_, q _ _ _ l1 r⟩
    rw [← e2]
    exact DGet.k (k := .inr k) e1
/-- d['key'] = e -/
theorem st_dputO {kvs : List (Key × Slot K)} {x : α} {k : Str} (s : S0 b g h σ env os) (e : Ev te env os x) (hx : env[i]? = some (.val V inferInstance (V.ref l))) (ho : os[m]? = some (l, Own.dic kvs)) (hl : kvs.length < 1000)
    (q : ∀ g' h', S0 b g' h' σ env (os.set m (l, Own.dic (putS kvs (.inr k) (sv x)))) → D.nx σ h') : sDPut (tVar i) (tC (.str k)) te D σ h :=
  e s fun v g1 h1 l1 r1 => ev_var hx (s.le l1) fun w g2 h2 l2 r2 => by
    cases r2
    have s3 := (s.le l1).le l2
    obtain ⟨vs, e', p⟩ := own_dic s3 ho
    exact ⟨l, _, rfl, DPut.k (k := .inr k) e' (by rw [kr_len p]; exact Nat.lt_trans hl (by decide)), q g2 _ (s3.put (w' := Own.dic (putS kvs (.inr k) (sv x))) ho ⟨_, rfl, kf_put p ⟨v, rfl, iα.mono l2.gg r1⟩⟩)⟩

/-! ### calls that change their objects -/
theorem cw_call {A : List (Slot K) → Os → (γ → Os → Prop) → Prop} {P : γ → Os → Prop} {xs : List (Slot K)} {E : XK} {ts : TA} {Q : VK} (osc rest : Os) (s : S0 b g h σ env os) (hp : os.Perm (osc ++ rest)) (e : EvA ts env os xs) (hA : A xs osc P)
    (k : ∀ v z osz g' h', P z osz → S0 b g' h' σ env (osz ++ rest) → Same g g' → iγ.R g' v z → Q v h') : tCall (SpW K A) [] E ts σ h Q :=
  e s fun vs g1 h1 l1 r1 => by
    have s1 := s.le l1
    have s2 := s1.perm hp
    have nd2 := s2.nd
    rw [List.map_append] at nd2
    have nds := List.nodup_append.mp nd2
    refine ⟨g1, xs, osc, P, hA, l1.gh, s2.ow.sub (fun p q => List.mem_append_left _ q) nds.1, by rw [List.append_nil]; exact r1, fun v z osz g2 h2 hz hf l2 o2 r2 => ?_⟩
    refine k v z osz g2 h2 hz (s2.after (fun p q => List.mem_append_left _ q) l2 o2 hf (fun p q => ?_) ?_) (l1.gg.trans l2.gg) r2
    · rcases List.mem_append.mp q with q | q
      · exact .inl q
      · exact .inr ⟨List.mem_append_right _ q, fun z => nds.2.2 _ z _ (List.mem_map_of_mem q) rfl⟩
    · rw [List.map_append]
      refine List.nodup_append.mpr ⟨o2.nd, nds.2.1, fun x hx y hy exy => ?_⟩
      subst exy
      obtain ⟨p, hpz, rfl⟩ := List.mem_map.mp hx
      obtain ⟨q, hq, e1⟩ := List.mem_map.mp hy
      rcases hf p hpz with z | z
      · exact nds.2.2 _ z _ (List.mem_map_of_mem hq) e1.symm
      · obtain ⟨_, u, e2, _⟩ := s2.own q (List.mem_append_right _ hq)
        rw [e1, z] at e2
        cases e2
theorem st_setCW {A : List (Slot K) → Os → (γ → Os → Prop) → Prop} {P : γ → Os → Prop} {xs : List (Slot K)} {E : XK} {ts : TA} (osc rest : Os) (s : S0 b g h σ env os) (hp : os.Perm (osc ++ rest)) (e : EvA ts env os xs) (hA : A xs osc P)
    (k : ∀ z osz, P z osz → ∀ v g' h', S0 b g' h' (σ.set i (some v)) (env.set i (sv z)) (osz ++ rest) → D.nx (σ.set i (some v)) h') : tAsg (tCall (SpW K A) [] E ts) (gName i) D σ h :=
  cw_call osc rest s hp e hA fun v z osz g' h' hz s' _ r => k z osz hz v g' h' (s'.set ⟨v, rfl, r⟩)
end
end Lw
/-! Displays of dicts; helps for calls in expressions. -/
namespace Lw
open PySem PySem.Spec PyProof.Rows L2
section
variable {K : PySem.W.Frag}
variable {env : Env K} {os osc os' osz rest : Os} {ta tb te tx tl : TE} {tt t u : TT} {α β γ : Type} [iα : Py K α] [iβ : Py K β] [iγ : Py K γ]
variable {b : Bs} {g h g' h' : Hp} {σ : L2.St} {D : Ends} {t1 t2 : TS} {i j m : Nat} {l : Addr}
def EvP (trs : List (TE × TE)) (env : Env K) (os : Os) (kvs : List (Key × Slot K)) : Prop :=
  ∀ {b : Bs} {g h : Hp} {σ : L2.St} {Q : List (V × V) → Hp → Prop}, S0 b g h σ env os → (∀ vs g' h', Le g h g' h' → KR g' vs kvs → Q (vs.map fun kv => (kV kv.1, kv.2)) h') → tPairs trs σ h Q
theorem ep_nil : EvP (K := K) [] env os [] := fun {b g h σ Q} s q => q [] g h (Le.refl s.gh) .nil
theorem ep_cons {trs : List (TE × TE)} {kvs : List (Key × Slot K)} {k : Str} {x : α} (hv : Ev te env os x) (hr : EvP trs env os kvs) : EvP ((tC (.str k), te) :: trs) env os ((.inr k, sv x) :: kvs) := fun {b g h σ Q} s q =>
  hv s fun v g1 h1 l1 r1 => hr (s.le l1) fun vs g2 h2 l2 r2 => q ((.inr k, v) :: vs) g2 h2 (l1.trans l2) (.cons ⟨rfl, v, rfl, iα.mono l2.gg r1⟩ r2)
def mergeS (kvs more : List (Key × Slot K)) : List (Key × Slot K) := more.foldl (fun acc kv => putS acc kv.1 kv.2) kvs
theorem kr_merge {vs ws : List (Key × V)} {kvs more : List (Key × Slot K)} (r : KR g ws more) (p : KR g vs kvs) : KR g (mergeK vs ws) (mergeS kvs more) := by
  induction r generalizing vs kvs with
  | nil => exact p
  | @cons a c as cs q _ ih =>
    have : KR g (putK vs a.1 a.2) (putS kvs c.1 c.2) := by rw [q.1]; exact kf_put p q.2
    exact ih this
theorem st_retD {trs : List (TE × TE)} {kvs : List (Key × Slot K)} (s : S0 b g h σ env os) (e : EvP trs env os kvs) (hl : kvs.length ≤ 15) (k : ∀ l g' h', S0 b g' h' σ env (os ++ [(l, Own.dic (mergeS [] kvs))]) → D.rt (.ref l) h') : tRet (tDisp trs) D σ h := fun p hp => by
  have s1 := s.add (w := Own.dic (K := K) []) (o := .dK []) hp ⟨[], rfl, .nil⟩
  refine e s1.drop fun vs g2 h2 l2 r2 => ?_
  have s2 := s1.le l2
  obtain ⟨ws, e2, r⟩ := own_dic s2 last_at
  cases r
  have s3 := s2.put (w' := Own.dic (mergeS [] kvs)) (o := .dK (mergeK [] vs)) last_at ⟨_, rfl, kr_merge r2 .nil⟩
  rw [last_set] at s3
  exact ⟨e2, vs, rfl, by rw [kr_len r2]; exact hl, k p g2 _ s3⟩
theorem st_setD {trs : List (TE × TE)} {kvs : List (Key × Slot K)} (s : S0 b g h σ env os) (e : EvP trs env os kvs) (hl : kvs.length ≤ 15) (k : ∀ l g' h', S0 b g' h' (σ.set i (some (.ref l))) (env.set i (sv (V.ref l))) (os ++ [(l, Own.dic (mergeS [] kvs))]) → D.nx (σ.set i (some (.ref l))) h') : tAsg (tDisp trs) (gName i) D σ h := fun p hp => by
  have s1 := s.add (w := Own.dic (K := K) []) (o := .dK []) hp ⟨[], rfl, .nil⟩
  refine e s1.drop fun vs g2 h2 l2 r2 => ?_
  have s2 := s1.le l2
  obtain ⟨ws, e2, r⟩ := own_dic s2 last_at
  cases r
  have s3 := s2.put (w' := Own.dic (mergeS [] kvs)) (o := .dK (mergeK [] vs)) last_at ⟨_, rfl, kr_merge r2 .nil⟩
  rw [last_set] at s3
  exact ⟨e2, vs, rfl, by rw [kr_len r2]; exact hl, k p g2 _ (s3.set ⟨_, rfl, rfl⟩)⟩
/-- a draw: f(bag, size) gives some r, 0 ≤ r < size; the bag is told as before -/
def a_take (K : PySem.W.Frag) (B : Own) (M : Int) : List (Slot K) → Os → (Int → Os → Prop) → Prop := fun xs os P => ∃ (l : Addr) (n : Int), xs = [sv (V.ref l), sv n] ∧ os = [(l, B)] ∧ (0 < n ∧ n ≤ M) ∧ ∀ r, 0 ≤ r → r < n → P r os
theorem ew_take {B : Own} {M : Int} {PN : Int → Prop} {E : XK} (hx : env[i]? = some (.val V inferInstance (V.ref l))) (ho : os[m]? = some (l, B)) (hn : EvW te env os PN) (hp : ∀ n, PN n → 0 < n ∧ n ≤ M) :
    EvW (tCall (SpW K (a_take K B M)) [] E (tCons (tVar i) (tCons te tNil))) env os (fun r => ∃ n, PN n ∧ 0 ≤ r ∧ r < n) := .mk fun {b g h σ os2 Q} s q =>
  ev_var hx s.drop fun v g1 h1 l1 r1 => hn.run (s.le l1) fun w n g2 h2 pn s2 e2 r2 => by
    cases r1
    have hm := List.mem_append_left os2 (List.mem_of_getElem? ho)
    refine ⟨g2, [sv (V.ref l), sv n], [(l, B)], fun r os' => (0 ≤ r ∧ r < n) ∧ os' = [(l, B)], ⟨l, n, rfl, rfl, hp n pn, fun r h0 h1 => ⟨⟨h0, h1⟩, rfl⟩⟩, s2.gh, ?_, arg2 rfl r2, ?_⟩
    · exact s2.ow.sub (fun p hp => by rw [List.mem_singleton] at hp; rw [hp]; exact hm) (by simp)
    · rintro v r os' g3 h3 ⟨hr, rfl⟩ _ l3 o3 r3
      exact q v r g3 h3 ⟨n, pn, hr⟩ (s2.afterSame (fun p hp => by rw [List.mem_singleton] at hp; rw [hp]; exact hm) l3 o3) (l1.gg.trans (e2.trans l3.gg)) r3
/-- .. of a known size -/
theorem ew_takeC {B : Own} {M : Int} {n : Int} {E : XK} (hx : env[i]? = some (.val V inferInstance (V.ref l))) (ho : os[m]? = some (l, B)) (hn : Ev te env os n) (hp : 0 < n ∧ n ≤ M) :
    EvW (tCall (SpW K (a_take K B M)) [] E (tCons (tVar i) (tCons te tNil))) env os (fun r => 0 ≤ r ∧ r < n) :=
  EvW.imp (ew_take (PN := fun y => y = n) hx ho (Ev.w hn) fun _ e => by rw [e]; exact hp) fun r ⟨_, e, h⟩ => by rw [e] at h; exact h
end
end Lw
/-! A choice whose two ways go on alike; room. -/
namespace Lw
open PySem PySem.Spec PyProof.Rows L2
section
variable {K : PySem.W.Frag} {env : Env K} {os : Os} {t : TT} {b : Bs} {g h : Hp} {σ : L2.St} {D : Ends} {t1 t2 : TS}
theorem st_if_cut {c : Bool} (J : Env K → Os → Prop) (s : S0 b g h σ env os) (e : EvT t env os c) (k : ∀ env' os' g' h' σ', J env' os' → S0 b g' h' σ' env' os' → D.nx σ' h')
    (k1 : c = true → ∀ g' h' (N : L2.St → Hp → Prop), S0 b g' h' σ env os → (∀ env' os' g' h' σ', J env' os' → S0 b g' h' σ' env' os' → N σ' h') → t1 { D with nx := N } σ h')
    (k2 : c = false → ∀ g' h' (N : L2.St → Hp → Prop), S0 b g' h' σ env os → (∀ env' os' g' h' σ', J env' os' → S0 b g' h' σ' env' os' → N σ' h') → t2 { D with nx := N } σ h') : tIfS t t1 t2 D σ h :=
  st_if s e (fun hc g' h' s => k1 hc g' h' D.nx s k) (fun hc g' h' s => k2 hc g' h' D.nx s k)
theorem st_if_cutW {P : Bool → Prop} (J : Env K → Os → Prop) (s : S0 b g h σ env os) (e : EvTW t env os P) (k : ∀ env' os' g' h' σ', J env' os' → S0 b g' h' σ' env' os' → D.nx σ' h')
    (k1 : P true → ∀ g' h' (N : L2.St → Hp → Prop), S0 b g' h' σ env os → (∀ env' os' g' h' σ', J env' os' → S0 b g' h' σ' env' os' → N σ' h') → t1 { D with nx := N } σ h')
    (k2 : P false → ∀ g' h' (N : L2.St → Hp → Prop), S0 b g' h' σ env os → (∀ env' os' g' h' σ', J env' os' → S0 b g' h' σ' env' os' → N σ' h') → t2 { D with nx := N } σ h') : tIfS t t1 t2 D σ h :=
  st_ifW s e (fun hc g' h' s => k1 hc g' h' D.nx s k) (fun hc g' h' s => k2 hc g' h' D.nx s k)
theorem st_setQ {α : Type} [iα : Py K α] {i : Nat} {te : TE} {x : α} (P : α → Prop) (s : S0 b g h σ env os) (e : Ev te env os x) (hx : P x) (k : ∀ x, P x → ∀ v g' h', S0 b g' h' (σ.set i (some v)) (env.set i (sv x)) os → D.nx (σ.set i (some v)) h') : tAsg te (gName i) D σ h :=
  st_set s e (fun v g' h' s => k x hx v g' h' s)
end
theorem mod_bd {x m : Int} (h : 0 < m) : 0 ≤ x % m ∧ x % m < m := ⟨Int.emod_nonneg _ (by omega), Int.emod_lt_of_pos _ h⟩
end Lw
namespace K34
open PySem PySem.Spec PyProof.Rows L2 Lw RZ
variable {P : Program} {w : World} {K : PySem.W.Frag} {mg : Str → Option Value} {base : Heap}
/-! ### the bag -/
structure BagP where
  great : Int
  left : Int
  seed : Int
  turn : Int
  place : Int
  cells : List Int
def bagS (p : BagP) : List (Key × Slot K) := [(.inr "great", sv p.great), (.inr "left", sv p.left), (.inr "seed", sv p.seed), (.inr "turn", sv p.turn), (.inr "place", sv p.place), (.inr "cells", sv p.cells)]
def Bag (K : PySem.W.Frag) : Own := Own.ex (fun p : BagP => 0 ≤ p.place) (fun p => Own.dic (bagS (K := K) p))
theorem g_great {p : BagP} : getS (bagS (K := K) p) (.inr "great") = some (sv p.great) := by kernel_rfl
theorem g_left {p : BagP} : getS (bagS (K := K) p) (.inr "left") = some (sv p.left) := by kernel_rfl
theorem g_seed {p : BagP} : getS (bagS (K := K) p) (.inr "seed") = some (sv p.seed) := by kernel_rfl
theorem g_turn {p : BagP} : getS (bagS (K := K) p) (.inr "turn") = some (sv p.turn) := by kernel_rfl
theorem g_place {p : BagP} : getS (bagS (K := K) p) (.inr "place") = some (sv p.place) := by kernel_rfl
theorem g_cells {p : BagP} : getS (bagS (K := K) p) (.inr "cells") = some (sv p.cells) := by kernel_rfl
theorem p_great {p : BagP} {x : Int} : putS (bagS (K := K) p) (.inr "great") (sv x) = bagS { p with great := x } := by kernel_rfl
theorem p_left {p : BagP} {x : Int} : putS (bagS (K := K) p) (.inr "left") (sv x) = bagS { p with left := x } := by kernel_rfl
theorem p_seed {p : BagP} {x : Int} : putS (bagS (K := K) p) (.inr "seed") (sv x) = bagS { p with seed := x } := by kernel_rfl
theorem p_turn {p : BagP} {x : Int} : putS (bagS (K := K) p) (.inr "turn") (sv x) = bagS { p with turn := x } := by kernel_rfl
theorem p_place {p : BagP} {x : Int} : putS (bagS (K := K) p) (.inr "place") (sv x) = bagS { p with place := x } := by kernel_rfl
theorem bag_len {p : BagP} : (bagS (K := K) p).length < 1000 := (by decide : 6 < 1000)
def a_bag (K : PySem.W.Frag) : List (Slot K) → Os → (V → Os → Prop) → Prop := fun xs os P => ∃ script : List Int, xs = [sv script] ∧ os = [] ∧ ∀ l, P (V.ref l) [(l, Bag K)]
theorem m_bag {c : List Int} : mergeS (K := K) [] [(.inr "great", sv (0 : Int)), (.inr "left", sv (0 : Int)), (.inr "seed", sv (7 : Int)), (.inr "turn", sv (0 : Int)), (.inr "place", sv (0 : Int)), (.inr "cells", sv c)] = bagS ⟨0, 0, 7, 0, 0, c⟩ := by kernel_rfl
theorem sc_law_bag : FnScope ["script"] ["script"] (defScope (topS 13)) := ⟨rfl, rfl, rfl, by decide +kernel, rfl, by decide +kernel, by decide +kernel⟩
theorem ok_law_bag (E : FX K mg) : Cal P w K mg base "_law_bag" 1 ["script"] (SpW K (a_bag K)) := by
  refine E.cal 9 9 (st := topS 13) rfl rfl (fun _ _ _ _ _ _ us hl => match us, hl with | [_], _ => rfl) fun f fd F => okWD F sc_law_bag (fun xs os P' h => ?_) (fun cdv Ar outer s0 H0 E0 hr xs os P' h => ?_)
  · obtain ⟨_, rfl, _⟩ := h; rfl
  · obtain ⟨script, rfl, rfl, hP⟩ := h
    refine ⟨_, (pss_one (ps_ret (pe_disp (pps_cons pe_str pe_int (pps_cons pe_str pe_int (pps_cons pe_str pe_int (pps_cons pe_str pe_int (pps_cons pe_str pe_int (pps_cons pe_str (pe_callTy (list_ofK K) (by rfl) (E.free 28) (by decide +kernel) (pa_cons (pe_slice (sl_listK K) (pv 0) po_none (po_some pe_int)) pa_nil)) pps_nil)))))) rfl rfl (by decide) (by decide)))), fun g σ Q s fin => ?_⟩
    refine st_retD s (ep_cons ev_int (ep_cons ev_int (ep_cons ev_int (ep_cons ev_int (ep_cons ev_int (ep_cons (ev_listL (ev_slL (ev_var rfl) eo_none (eo_some ev_int))) ep_nil)))))) (by simp) (fun l g h s => ?_)
    rw [m_bag] at s
    have s := s.closed (m := 0) (ok := fun p : BagP => 0 ≤ p.place) (W := fun p => Own.dic (bagS (K := K) p)) rfl (Int.le_refl _)
    exact fin (V.ref l) (V.ref l) g h _ _ _ _ (hP l) (fun p hp => hp) s (by simp) rfl
theorem sc_law_take : FnScope ["bag", "size", "cell", "digit", "mixed"] ["bag", "size"] (defScope (topS 14)) := ⟨rfl, rfl, rfl, by decide +kernel, rfl, by decide +kernel, by decide +kernel⟩
theorem ok_law_take (E : FX K mg) : Cal P w K mg base "_law_take" 1 ["bag", "size"] (SpW K (a_take K (Bag K) 100000)) := by
  refine E.cal 10 10 (st := topS 14) rfl rfl (fun _ _ _ _ _ _ us hl => match us, hl with | [_, _], _ => rfl) fun f fd F => okWD F sc_law_take (fun xs os P' h => ?_) (fun cdv Ar outer s0 H0 E0 hr xs os P' h => ?_)
  · obtain ⟨_, _, rfl, _⟩ := h; rfl
  · obtain ⟨l, size, rfl, rfl, ⟨hs0, hs1⟩, hP⟩ := h
    refine ⟨_, (pss_cons (ps_if (PW.pt (pw_and (pt_cmpR op_eq (pe_dget (hu_of hr) (pv 0) pe_str (fun _ _ => rfl)) pe_int (nomark _)) (pw_and (pt_cmpR op_eq (pe_dget (hu_of hr) (pv 0) pe_str (fun _ _ => rfl)) pe_int (nomark _)) (pw_and1 (pt_cmpR op_lt (pe_dget (hu_of hr) (pv 0) pe_str (fun _ _ => rfl)) (pe_callB (len_seqK K) (by rfl) (E.free 29) (by decide +kernel) (pa_cons (pe_dget (hu_of hr) (pv 0) pe_str (fun _ _ => rfl)) pa_nil)) (nomark _)))))) (pss_cons (ps_set (i := 2) sc_law_take.nd rfl (.inl rfl) (pe_ix (ix_listK K) (pe_dget (hu_of hr) (pv 0) pe_str (fun _ _ => rfl)) (pe_dget (hu_of hr) (pv 0) pe_str (fun _ _ => rfl)) (fun _ _ => rfl)))
    (pss_cons (ps_dput (hu_of hr) (pv 0) pe_str (pe_op op_add (pe_dget (hu_of hr) (pv 0) pe_str (fun _ _ => rfl)) pe_int) rfl)
    (pss_cons (ps_dput (hu_of hr) (pv 0) pe_str (pe_op op_mod (pe_callTy call_int1 (by rfl) (E.free 31) (by decide +kernel) (pa_cons (pe_op op_add (pe_op op_mul (pe_dget (hu_of hr) (pv 0) pe_str (fun _ _ => rfl)) pe_int) (pv 2)) pa_nil)) pe_int) rfl)
    (pss_one (ps_if (pt_cmpR op_ge (pv 2) (pe_op op_pow pe_int pe_int) (nomark _)) (pss_one (ps_dput (hu_of hr) (pv 0) pe_str (pv 2) rfl)) (pss_one (ps_dput (hu_of hr) (pv 0) pe_str pe_int rfl))))))) pss_nil)
    (pss_cons (ps_if (pt_cmpR op_gt (pe_dget (hu_of hr) (pv 0) pe_str (fun _ _ => rfl)) pe_int (nomark _)) (pss_cons (ps_set (i := 3) sc_law_take.nd rfl (.inl rfl) (pe_op op_mod (pe_callTy call_int1 (by rfl) (E.free 31) (by decide +kernel) (pa_cons (pe_dget (hu_of hr) (pv 0) pe_str (fun _ _ => rfl)) pa_nil)) (pv 1)))
    (pss_cons (ps_dput (hu_of hr) (pv 0) pe_str (pe_op op_fdiv (pe_dget (hu_of hr) (pv 0) pe_str (fun _ _ => rfl)) (pv 1)) rfl)
    (pss_one (ps_ret (pv 3))))) pss_nil)
    (pss_cons (ps_dput (hu_of hr) (pv 0) pe_str (pe_callB (call_max2 rfl) (by rfl) (E.free 26) (by decide +kernel) (pa_cons pe_int (pa_cons (pe_op op_sub (pe_dget (hu_of hr) (pv 0) pe_str (fun _ _ => rfl)) pe_int) pa_nil))) rfl)
    (pss_cons (ps_dput (hu_of hr) (pv 0) pe_str (pe_op op_add (pe_dget (hu_of hr) (pv 0) pe_str (fun _ _ => rfl)) pe_int) rfl)
    (pss_cons (ps_set (i := 4) sc_law_take.nd rfl (.inl rfl) (pe_op op_mod (pe_callTy call_int1 (by rfl) (E.free 31) (by decide +kernel) (pa_cons (pe_op op_add (pe_op op_add (pe_op op_mul (pe_dget (hu_of hr) (pv 0) pe_str (fun _ _ => rfl)) pe_int) (pe_op op_mul (pe_dget (hu_of hr) (pv 0) pe_str (fun _ _ => rfl)) pe_int)) pe_int) pa_nil)) pe_int))
    (pss_cons (ps_set (i := 4) sc_law_take.nd rfl (.inl rfl) (pe_op op_mod (pe_callTy call_int1 (by rfl) (E.free 31) (by decide +kernel) (pa_cons (pe_op op_add (pe_op op_add (pe_op op_mul (pv 4) (pv 4)) (pe_op op_fdiv (pv 4) pe_int)) (pe_dget (hu_of hr) (pv 0) pe_str (fun _ _ => rfl))) pa_nil)) pe_int))
    (pss_one (ps_ret (pe_op op_mod (pe_callTy call_int1 (by rfl) (E.free 31) (by decide +kernel) (pa_cons (pe_op op_fdiv (pv 4) pe_int) pa_nil)) (pv 1)))))))))), fun g σ Q s fin => ?_⟩
    obtain ⟨p, hp, s⟩ := s.opened (m := 0) rfl
    have fin2 : ∀ v (z : Int) g' h' σ' env' (p : BagP), 0 ≤ p.place → 0 ≤ z → z < size → S0 ⟨[(l, Bag K)].map (·.1), g, H0⟩ g' h' σ' (env' : Lw.Env K) [(l, Own.dic (bagS (K := K) p))] → v = V.int z → Q v h' := fun v z g' h' σ' env' p hp h0 h1 s r =>
      fin v z g' h' σ' env' _ _ (hP z h0 h1) (fun q hq => hq) (s.closed (m := 0) (ok := fun p : BagP => 0 ≤ p.place) (W := fun p => Own.dic (bagS (K := K) p)) rfl hp) (by simp) r
    have hz : (0 : Int) < size ∧ size < 1073741824 := ⟨hs0, by omega⟩
    refine st_if_cut (fun e o => ∃ (p : BagP) (s2 s3 s4 : Slot K), 0 ≤ p.place ∧ e = [sv (V.ref l), sv size, s2, s3, s4] ∧ o = [(l, Own.dic (bagS (K := K) p))]) s (et_and (et_test (ev_eqI (ev_dgetO (m := 0) rfl rfl g_great) ev_int)) fun _ => (et_and (et_test (ev_eqI (ev_dgetO (m := 0) rfl rfl g_left) ev_int)) fun _ => (et_test (ev_ib (ev_dgetO (m := 0) rfl rfl g_place) (ev_lenL (ev_dgetO (m := 0) rfl rfl g_cells)))))) (fun e o g h σ hJ s => ?_) (fun hc g h N s hN => ?_) (fun hc g h N s hN => ?_)
    · obtain ⟨p, s2, s3, s4, hp, rfl, rfl⟩ := hJ
      dsimp only
      -- if bag['great'] > 0:
      refine st_if s (et_test (ev_ib (ev_dgetO (m := 0) rfl rfl g_great) ev_int)) (fun hc g h s => ?_) (fun hc g h s => ?_)
      · -- digit = int(bag['great']) % size
        refine st_set s (ev_iC (ev_intI (ev_dgetO (m := 0) rfl rfl g_great)) (ev_var rfl) hs0) (fun v g h s => ?_)
        -- bag['great'] = bag['great'] // size
        refine st_dputO (m := 0) s (ev_iC (ev_dgetO (m := 0) rfl rfl g_great) (ev_var rfl) hz) rfl rfl bag_len (fun g h s => ?_)
        rw [p_great] at s
        -- return digit
        refine st_ret s (ev_var rfl) ?_
        exact fun v g h s r => fin2 v _ g h _ _ _ (by exact hp) (Int.emod_nonneg _ (by omega)) (Int.emod_lt_of_pos _ hs0) s r
      · -- bag['left'] = max(0, bag['left'] - 1)
        dsimp only [tNext]
        refine st_dputO (m := 0) s (ev_max2 ev_int (ev_i2 (ev_dgetO (m := 0) rfl rfl g_left) ev_int)) rfl rfl bag_len (fun g h s => ?_)
        rw [p_left] at s
        -- bag['turn'] = bag['turn'] + 1
        refine st_dputO (m := 0) s (ev_i2 (ev_dgetO (m := 0) rfl rfl g_turn) ev_int) rfl rfl bag_len (fun g h s => ?_)
        rw [p_turn] at s
        -- mixed = int(bag['seed'] * 48271 + bag['turn'] * 69621 + 11) % 2147483647
        refine st_setQ (fun x : Int => 0 ≤ x ∧ x < 2147483647) s (ev_iC (ev_intI (ev_i2 (ev_i2 (ev_iC (ev_dgetO (m := 0) rfl rfl g_seed) ev_int (.inr (by decide))) (ev_iC (ev_dgetO (m := 0) rfl rfl g_turn) ev_int (.inr (by decide)))) ev_int)) ev_int (by decide)) (mod_bd (by decide)) (fun x hx v g h s => ?_)
        -- mixed = int(mixed * mixed + mixed // 127 + bag['turn']) % 2147483399
        refine st_setQ (fun x : Int => 0 ≤ x ∧ x < 2147483399) s (ev_iC (ev_intI (ev_i2 (ev_i2 (ev_iC (ev_var rfl) (ev_var rfl) (by exact .inl ⟨by omega, by omega⟩)) (ev_iC (ev_var rfl) ev_int (by exact ⟨by decide, by decide⟩))) (ev_dgetO (m := 0) rfl rfl g_turn))) ev_int (by decide)) (mod_bd (by decide)) (fun y hy v g h s => ?_)
        -- return int(mixed // 11) % size
        refine st_ret s (ev_iC (ev_intI (ev_iC (ev_var rfl) ev_int (by exact ⟨by decide, by decide⟩))) (ev_var rfl) (by exact hs0)) ?_
        exact fun v g h s r => fin2 v _ g h _ _ _ (by exact hp) (Int.emod_nonneg _ (by omega)) (Int.emod_lt_of_pos _ hs0) s r
    · rw [Bool.and_eq_true, Bool.and_eq_true, decide_eq_true_iff, decide_eq_true_iff, decide_eq_true_iff] at hc
      -- cell = bag['cells'][bag['place']]
      refine st_set s (ev_ixLD 0 (ev_dgetO (m := 0) rfl rfl g_cells) (ev_dgetO (m := 0) rfl rfl g_place) hp hc.2.2) (fun v g h s => ?_)
      -- bag['place'] = bag['place'] + 1
      refine st_dputO (m := 0) s (ev_i2 (ev_dgetO (m := 0) rfl rfl g_place) ev_int) rfl rfl bag_len (fun g h s => ?_)
      rw [p_place] at s
      have hp2 : 0 ≤ p.place + 1 := by omega
      -- bag['seed'] = int(bag['seed'] * 31 + cell) % 2147483629
      refine st_dputO (m := 0) s (ev_iC (ev_intI (ev_i2 (ev_iC (ev_dgetO (m := 0) rfl rfl g_seed) ev_int (.inr (by decide))) (ev_var rfl))) ev_int (by decide)) rfl rfl bag_len (fun g h s => ?_)
      rw [p_seed] at s
      -- if cell >= 10 ** 18:
      refine st_if s (et_test (ev_ib (ev_var rfl) (ev_iC ev_int ev_int (by exact ⟨by decide, by decide, by decide⟩)))) (fun hc g h s => ?_) (fun hc g h s => ?_)
      · -- bag['great'] = cell
        refine st_dputO (m := 0) s (ev_var rfl) rfl rfl bag_len (fun g h s => ?_)
        rw [p_great] at s
        exact hN _ _ _ _ _ ⟨_, _, _, _, hp2, rfl, rfl⟩ s
      · -- bag['left'] = 6
        refine st_dputO (m := 0) s ev_int rfl rfl bag_len (fun g h s => ?_)
        rw [p_left] at s
        exact hN _ _ _ _ _ ⟨_, _, _, _, hp2, rfl, rfl⟩ s
    · exact hN _ _ _ _ _ ⟨p, _, _, _, hp, rfl, rfl⟩ s
end K34
namespace K34
open PySem PySem.Spec PyProof.Rows L2 Lw RZ
variable {P : Program} {w : World} {K : PySem.W.Frag} {mg : Str → Option Value} {base : Heap}
def a_settings (K : PySem.W.Frag) : List (Slot K) → Os → (List (Tup Int) → Os → Prop) → Prop := fun xs os P => ∃ (l : Addr) (n : Nat), xs = [sv (V.ref l), sv (n : Int)] ∧ os = [(l, Bag K)] ∧ n ≤ 6 ∧ ∀ told, TOk n told → P told os
theorem sc_law_settings : FnScope ["bag", "count", "told", "filled", "many", "k", "levels", "i"] ["bag", "count"] (defScope (topS 18)) := ⟨rfl, rfl, rfl, by decide +kernel, rfl, by decide +kernel, by decide +kernel⟩
theorem ok_law_settings (E : FX K mg) : Cal P w K mg base "_law_settings" 2 ["bag", "count"] (SpW K (a_settings K)) := by
  refine E.cal 14 14 (st := topS 18) rfl rfl (fun _ _ _ _ _ _ us hl => match us, hl with | [_, _], _ => rfl) fun f fd F => okWD F sc_law_settings (fun xs os P' h => ?_) (fun cdv Ar outer s0 H0 E0 hr xs os P' h => ?_)
  · obtain ⟨_, _, rfl, _⟩ := h; rfl
  · obtain ⟨l, n, rfl, rfl, hn, hP⟩ := h
    refine ⟨_, (pss_cons (ps_set (i := 2) sc_law_settings.nd rfl (.inl rfl) (pe_lst pa_nil))
    (pss_cons (ps_set (i := 3) sc_law_settings.nd rfl (.inl rfl) (pe_cmpR op_gt (pe_c (ok_law_take E) (hr.mono (by decide)) rfl (pa_cons (pv 0) (pa_cons pe_int pa_nil))) pe_int (nomark _)))
    (pss_cons (ps_set (i := 4) sc_law_settings.nd rfl (.inl rfl) (pe_c (ok_law_take E) (hr.mono (by decide)) rfl (pa_cons (pv 0) (pa_cons pe_int pa_nil))))
    (pss_cons (ps_if (pt_cmpR op_eq (pe_c (ok_law_take E) (hr.mono (by decide)) rfl (pa_cons (pv 0) (pa_cons pe_int pa_nil))) pe_int (nomark _)) (pss_one (ps_set (i := 4) sc_law_settings.nd rfl (.inl rfl) (pe_op op_add pe_int (pe_c (ok_law_take E) (hr.mono (by decide)) rfl (pa_cons (pv 0) (pa_cons pe_int pa_nil)))))) pss_nil)
    (pss_cons (ps_for PassesOwn.never rfl (pi_range1 rfl (E.free 27) (pa_cons (pv 4) pa_nil)) (pg_name (i := 5) sc_law_settings.nd rfl (.inl rfl))
      (pss_cons (ps_setLc (i := 6) (own := [("i", 7)]) (g := gName 7) (tt := tYes) rfl sc_law_settings.nd rfl rfl (sw_true rfl rfl rfl (by decide +kernel)) (pi_range1 rfl (E.free 27) (pa_cons (pv 1) pa_nil)) (blkOk_by (N := ["bag", "count", "told", "filled", "many", "k", "levels", "i"]) (sc := defScope (topS 18)) (own := [("i", 7)]) (by decide +kernel)) (fun _ _ _ _ _ => (pg_name (i := 7) sc_law_settings.nd rfl (Or.inl rfl))) (fun _ _ _ _ _ => pts_nil) (fun _ _ _ _ _ => (pe_callTy call_int1 (by rfl) (E.free 31) (by decide +kernel) (pa_cons (pe_cmpR op_lt (pe_c (ok_law_take E) (hr.mono (by decide)) rfl (pa_cons (pv 0) (pa_cons pe_int pa_nil))) pe_int (nomark _)) pa_nil))))
    (pss_cons (ps_if (PW.pt (pw_and (pt_val (pv 3)) (pw_and (pt_cmpR op_gt (pv 1) pe_int (nomark _)) (pw_and1 (pt_cmpR op_eq (pe_callB (sumK K) (by rfl) (E.free 30) (by decide +kernel) (pa_cons (pv 6) pa_nil)) pe_int (nomark _)))))) (pss_one (ps_asg pe_int (pg_sub (pv 6) (pe_c (ok_law_take E) (hr.mono (by decide)) rfl (pa_cons (pv 0) (pa_cons (pv 1) pa_nil))) set_list))) pss_nil)
    (pss_one (ps_expr (pe_bm PySem.F.plainAttrs_list PySem.F.slot_list_append PySem.F.type_list_append mt_append (pv 2) (pa_cons (pe_callTy (tuple_ofK K) (by rfl) (E.free 25) (by decide +kernel) (pa_cons (pv 6) pa_nil)) pa_nil)))))))
    (pss_one (ps_ret (pv 2)))))))), fun g σ Q s fin => ?_⟩
    -- told = []
    refine st_setN s (en_lst (el_nil (α := Tup Int)) (by decide)) (fun lt g h s => ?_)
    -- filled = _law_take(bag, 4) > 0
    try dsimp only
    refine st_setW (P := fun _ : Bool => True) s (EvW.imp (ew_op (ew_takeC (m := 0) rfl rfl ev_int ⟨by decide, by decide⟩) (Ev.w ev_int) fun x y _ _ => ev_ib (ev_var rfl) (ev_var rfl)) fun _ _ => trivial) (fun fl _ v g h s => ?_)
    -- many = _law_take(bag, 8)
    try dsimp only
    refine st_setW s (ew_takeC (m := 0) rfl rfl ev_int ⟨by decide, by decide⟩) (fun many hm v g h s => ?_)
    -- if _law_take(bag, 6) == 1:
    try dsimp only
    refine st_if_cutW (fun e o => ∃ many : Int, (0 ≤ many ∧ many ≤ 100) ∧ e = [sv (V.ref l), sv (n : Int), sv (V.ref lt), sv fl, sv many, .unk, .unk, .unk] ∧ o = [(l, Bag K), (lt, Own.lst K ([] : List (Tup Int)))]) s
      (ewt_any (ewt_test (ew_op (ew_takeC (m := 0) rfl rfl ev_int ⟨by decide, by decide⟩) (Ev.w ev_int) fun x y _ _ => ev_eqI (ev_var rfl) (ev_var rfl)))) (fun e o g h σ hJ s => ?_) (fun _ g h N s hN => ?_) (fun _ g h N s hN => ?_)
    · obtain ⟨many, hm, rfl, rfl⟩ := hJ
      dsimp only
      -- for k in range(many):
      refine st_for_range s (ev_var rfl) (by omega) (by omega) (fun k e o => ∃ (tl : List (Tup Int)) (s5 s6 s7 : Slot K), e = [sv (V.ref l), sv (n : Int), sv (V.ref lt), sv fl, sv many, s5, s6, s7] ∧ o = [(l, Bag K), (lt, Own.lst K tl)] ∧ tl.length = k ∧ ∀ t ∈ tl, t.l.length = n ∧ ∀ x ∈ t.l, x = 0 ∨ x = 1) ⟨[], _, _, _, rfl, rfl, rfl, fun _ z => nomatch z⟩ (fun k hk c hls e o g h σ N hI back s hN => ?_) (fun e o g h σ hI s => ?_)
      · obtain ⟨tl, s5, s6, s7, rfl, rfl, htl, hall⟩ := hI
        -- levels = [int(_law_take(bag, 5) < 2) for i in range(count)]
        try dsimp only
        refine st_setNW (P := fun ys : List Int => ys.length = n ∧ ∀ y ∈ ys, y = 0 ∨ y = 1) s (EvNW.imp (ew_lcR (P := fun _ y : Int => y = 0 ∨ y = 1) (0 : Int) (Ev.w (ev_var rfl)) (fun m e => by rw [e]; omega) (fun m _ x _ _ => EvW.imp (ew_cb1 (ew_op (ew_takeC (m := 0) rfl rfl ev_int ⟨by decide, by decide⟩) (Ev.w ev_int) fun x y _ _ => ev_ib (ev_var rfl) (ev_var rfl)) fun x _ => ev_intB (ev_var rfl)) fun z hz => ?_)) fun ys hy => ?_) (fun ys hy l2 g h s => ?_)
        · obtain ⟨c, _, rfl⟩ := hz
          cases c
          · exact .inl rfl
          · exact .inr rfl
        · obtain ⟨m, rfl, pr⟩ := hy
          refine ⟨by rw [pr.length, upto_len, Int.toNat_natCast], fun y hy => ?_⟩
          obtain ⟨_, _, q⟩ := paired_all pr y hy
          exact q
        -- if filled and count > 0 and (sum(levels) == 0):
        refine st_if_cut (fun e o => ∃ lv : List Int, (lv.length = n ∧ ∀ y ∈ lv, y = 0 ∨ y = 1) ∧ e = [sv (V.ref l), sv (n : Int), sv (V.ref lt), sv fl, sv many, sv ((k : Nat) : Int), sv (V.ref l2), s7] ∧ o = [(l, Bag K), (lt, Own.lst K tl), (l2, Own.lst K lv)]) s
          (et_and (et_B (ev_var rfl)) fun _ => (et_and (et_test (ev_ib (ev_var rfl) ev_int)) fun _ => (et_test (ev_eqI (ev_sumO (m := 2) rfl rfl) ev_int)))) (fun e o g h σ hJ s => ?_) (fun hc g h N' s hN' => ?_) (fun hc g h N' s hN' => ?_)
        · obtain ⟨lv, hlv, rfl, rfl⟩ := hJ
          -- told.append(tuple(levels))
          refine st_append (m := 1) s rfl rfl (Nat.lt_of_le_of_lt (show tl.length ≤ 1000 by omega) (by decide)) (ev_tupleO (m := 2) rfl rfl) (fun g h s => ?_)
          refine hN _ _ _ _ _ ⟨tl ++ [⟨lv⟩], _, _, _, rfl, rfl, by rw [List.length_append, htl]; rfl, fun t ht => ?_⟩ (s.drop (os := [_, _]) (os' := [_]))
          rcases List.mem_append.mp ht with ht | ht
          · exact hall t ht
          · rw [List.mem_singleton] at ht
            rw [ht]
            exact hlv
        · rw [Bool.and_eq_true, Bool.and_eq_true, decide_eq_true_iff] at hc
          have hc0 : (0 : Int) < n := hc.2.1
          -- levels[_law_take(bag, count)] = 1
          try dsimp only
          refine st_setOW (m := 2) s (Ev.w ev_int) rfl rfl (ew_takeC (m := 0) rfl rfl (ev_var rfl) ⟨hc0, by omega⟩) (fun m hm => ⟨hm.1, by rw [hy.1]; exact hm.2⟩) (fun x m px pm g h s => ?_)
          refine hN' _ _ _ _ _ ⟨ys.set m.toNat x, ⟨by rw [List.length_set]; exact hy.1, fun y hy' => ?_⟩, rfl, rfl⟩ s
          rcases List.mem_or_eq_of_mem_set hy' with z | z
          · exact hy.2 y z
          · rw [z, px]; exact .inr rfl
        · exact hN' _ _ _ _ _ ⟨ys, hy, rfl, rfl⟩ s
      · obtain ⟨tl, s5, s6, s7, rfl, rfl, htl, hall⟩ := hI
        dsimp only
        obtain ⟨g', s⟩ := s.freezeW (i := 2) (m := 1) rfl rfl 1 rfl (by decide)
        -- return told
        refine st_ret s (ev_var rfl) ?_
        exact fun v g h s r => fin v _ g h _ _ _ _ (hP tl ⟨by omega, hall⟩) (fun p hp => hp) s (by simp) r
    · -- many = 8 + _law_take(bag, 63)
      try dsimp only
      refine st_setW (P := fun x : Int => 0 ≤ x ∧ x ≤ 100) s (EvW.imp (ew_op (Ev.w ev_int) (ew_takeC (m := 0) rfl rfl ev_int ⟨by decide, by decide⟩) fun x y _ _ => ev_i2 (ev_var rfl) (ev_var rfl)) fun z ⟨x, y, hx, hy, hz⟩ => by omega) (fun many hm v g h s => ?_)
      exact hN _ _ _ _ _ ⟨_, hm, rfl, rfl⟩ s
    · exact hN _ _ _ _ _ ⟨_, by omega, rfl, rfl⟩ s
end K34
namespace K34
open PySem PySem.Spec PyProof.Rows L2 Lw RZ
variable {P : Program} {w : World} {K : PySem.W.Frag} {mg : Str → Option Value} {base : Heap}
def partsL : List Int := [1, 2, 3, 4, 5, 6, 8, 9, 10, 12, 15, 16, 18, 20, 24, 30, 36, 40, 45, 48, 60, 72, 80, 90, 120, 144, 180, 240, 360, 720]
theorem parts_at : ∀ m, m < 30 → 0 < partsL.getD m 0 ∧ partsL.getD m 0 ≤ 720 := by decide
theorem ev_l3 {env : Lw.Env K} {os : Os} {a b c : Int} : Lw.Ev (tLst (tCons (tC (.int a)) (tCons (tC (.int b)) (tCons (tC (.int c)) tNil)))) env os [a, b, c] := ev_lstL (el_cons ev_int (el_cons ev_int (el_cons ev_int el_nil)))
theorem red_ok {n d : Int} (h : 0 ≤ n ∧ n < 4096 ∧ 0 < d ∧ d < 4096) : 0 ≤ (redF n d).1 ∧ (redF n d).1 < 4096 ∧ 0 < (redF n d).2 ∧ (redF n d).2 < 4096 := by
  have b : Bd 12 (n, d) := ⟨h.1, by show n.natAbs < 4096; omega, h.2.2.1, by show d.natAbs < 4096; omega⟩
  have := bd_red b
  obtain ⟨h1, h2, h3, h4⟩ := this
  have e : (2 : Nat) ^ 12 = 4096 := by decide
  rw [e] at h2 h4
  exact ⟨h1, by omega, h3, by omega⟩
def a_fractions (K : PySem.W.Frag) : List (Slot K) → Os → (List (Int × Int) → Os → Prop) → Prop := fun xs os P => ∃ l : Addr, xs = [sv (V.ref l)] ∧ os = [(l, Bag K)] ∧ ∀ ps, OkPs ps → P ps os
theorem sc_law_fractions : FnScope ["bag", "parts", "size", "found", "k", "top"] ["bag"] (defScope (topS 22)) := ⟨rfl, rfl, rfl, by decide +kernel, rfl, by decide +kernel, by decide +kernel⟩
theorem ok_law_fractions (E : FX K mg) : Cal P w K mg base "_law_fractions" 3 ["bag"] (SpW K (a_fractions K)) := by
  refine E.cal 18 18 (st := topS 22) rfl rfl (fun _ _ _ _ _ _ us hl => match us, hl with | [_], _ => rfl) fun f fd F => okWD F sc_law_fractions (fun xs os P' h => ?_) (fun cdv Ar outer s0 H0 E0 hr xs os P' h => ?_)
  · obtain ⟨_, rfl, _⟩ := h; rfl
  · obtain ⟨l, rfl, rfl, hP⟩ := h
    refine ⟨_, (pss_cons (ps_set (i := 1) sc_law_fractions.nd rfl (.inl rfl) (pe_lst (pa_cons pe_int (pa_cons pe_int (pa_cons pe_int (pa_cons pe_int (pa_cons pe_int (pa_cons pe_int (pa_cons pe_int (pa_cons pe_int (pa_cons pe_int (pa_cons pe_int (pa_cons pe_int (pa_cons pe_int (pa_cons pe_int (pa_cons pe_int (pa_cons pe_int (pa_cons pe_int (pa_cons pe_int (pa_cons pe_int (pa_cons pe_int (pa_cons pe_int (pa_cons pe_int (pa_cons pe_int (pa_cons pe_int (pa_cons pe_int (pa_cons pe_int pa_nil)))))))))))))))))))))))))))
    (pss_cons (ps_set (i := 1) sc_law_fractions.nd rfl (.inl rfl) (pe_op op_cat (pv 1) (pe_lst (pa_cons pe_int (pa_cons pe_int (pa_cons pe_int (pa_cons pe_int (pa_cons pe_int pa_nil))))))))
    (pss_cons (ps_set (i := 2) sc_law_fractions.nd rfl (.inl rfl) (pe_c (ok_law_take E) (hr.mono (by decide)) rfl (pa_cons (pv 0) (pa_cons pe_int pa_nil))))
    (pss_cons (ps_if (pt_cmpR op_eq (pe_c (ok_law_take E) (hr.mono (by decide)) rfl (pa_cons (pv 0) (pa_cons pe_int pa_nil))) pe_int (nomark _)) (pss_one (ps_set (i := 2) sc_law_fractions.nd rfl (.inl rfl) pe_int)) pss_nil)
    (pss_cons (ps_set (i := 3) sc_law_fractions.nd rfl (.inl rfl) (pe_lst pa_nil))
    (pss_cons (ps_for PassesOwn.never rfl (pi_range1 rfl (E.free 27) (pa_cons (pv 2) pa_nil)) (pg_name (i := 4) sc_law_fractions.nd rfl (.inl rfl))
      (pss_cons (ps_set (i := 5) sc_law_fractions.nd rfl (.inl rfl) (pe_ix (ix_listK K) (pe_lst (pa_cons pe_int (pa_cons pe_int (pa_cons pe_int pa_nil)))) (pe_c (ok_law_take E) (hr.mono (by decide)) rfl (pa_cons (pv 0) (pa_cons pe_int pa_nil))) (fun _ _ => rfl)))
    (pss_one (ps_expr (pe_bm PySem.F.plainAttrs_list PySem.F.slot_list_append PySem.F.type_list_append mt_append (pv 3) (pa_cons (pe_c (ok_law_lowest E) (hr.mono (by decide)) rfl (pa_cons (pe_c (ok_law_take E) (hr.mono (by decide)) rfl (pa_cons (pv 0) (pa_cons (pv 5) pa_nil))) (pa_cons (pe_ix (ix_listK K) (pv 1) (pe_c (ok_law_take E) (hr.mono (by decide)) rfl (pa_cons (pv 0) (pa_cons pe_int pa_nil))) (fun _ _ => rfl)) pa_nil))) pa_nil))))))
    (pss_cons (ps_if (pt_cmpR op_eq (pe_c (ok_law_take E) (hr.mono (by decide)) rfl (pa_cons (pv 0) (pa_cons pe_int pa_nil))) pe_int (nomark _)) (pss_one (ps_for PassesOwn.never rfl (pi_range1 rfl (E.free 27) (pa_cons (pe_c (ok_law_take E) (hr.mono (by decide)) rfl (pa_cons (pv 0) (pa_cons pe_int pa_nil))) pa_nil)) (pg_name (i := 4) sc_law_fractions.nd rfl (.inl rfl))
      (pss_one (ps_expr (pe_bm PySem.F.plainAttrs_list PySem.F.slot_list_append PySem.F.type_list_append mt_append (pv 3) (pa_cons (pe_c (ok_law_lowest E) (hr.mono (by decide)) rfl (pa_cons (pe_c (ok_law_take E) (hr.mono (by decide)) rfl (pa_cons (pv 0) (pa_cons pe_int pa_nil))) (pa_cons (pe_op op_add pe_int (pe_c (ok_law_take E) (hr.mono (by decide)) rfl (pa_cons (pv 0) (pa_cons pe_int pa_nil)))) pa_nil))) pa_nil)))))) pss_nil)
    (pss_one (ps_ret (pv 3)))))))))), fun g σ Q s fin => ?_⟩
    -- parts = [..]
    refine st_setN s (en_lst (el_cons ev_int (el_cons ev_int (el_cons ev_int (el_cons ev_int (el_cons ev_int (el_cons ev_int (el_cons ev_int (el_cons ev_int (el_cons ev_int (el_cons ev_int (el_cons ev_int (el_cons ev_int (el_cons ev_int (el_cons ev_int (el_cons ev_int (el_cons ev_int (el_cons ev_int (el_cons ev_int (el_cons ev_int (el_cons ev_int (el_cons ev_int (el_cons ev_int (el_cons ev_int (el_cons ev_int (el_cons ev_int el_nil))))))))))))))))))))))))) (by decide)) (fun l1 g h s => ?_)
    -- parts = parts + [144, 180, 240, 360, 720]
    refine st_setQ (fun x : List Int => x = partsL) s (EvN.ev (en_cat (eh_own (m := 1) rfl rfl) (EvN.held (en_lst (el_cons ev_int (el_cons ev_int (el_cons ev_int (el_cons ev_int (el_cons ev_int el_nil))))) (by decide))) (by decide))) rfl (fun parts hparts v g h s => ?_)
    have s := s.drop (os := [_]) (os' := [_])
    try dsimp only
    -- size = _law_take(bag, 9)
    refine st_setW s (ew_takeC (m := 0) rfl rfl ev_int ⟨by decide, by decide⟩) (fun size hm v g h s => ?_)
    try dsimp only
    -- if _law_take(bag, 12) == 1:
    refine st_if_cutW (fun e o => ∃ size : Int, (0 ≤ size ∧ size ≤ 60) ∧ e = [sv (V.ref l), sv parts, sv size, .unk, .unk, .unk] ∧ o = [(l, Bag K)]) s
      (ewt_any (ewt_test (ew_op (ew_takeC (m := 0) rfl rfl ev_int ⟨by decide, by decide⟩) (Ev.w ev_int) fun x y _ _ => ev_eqI (ev_var rfl) (ev_var rfl)))) (fun e o g h σ hJ s => ?_) (fun _ g h N s hN => ?_) (fun _ g h N s hN => ?_)
    · obtain ⟨size, hm, rfl, rfl⟩ := hJ
      dsimp only
      -- found = []
      refine st_setN s (en_lst (el_nil (α := Int × Int)) (by decide)) (fun lf g h s => ?_)
      -- for k in range(size):
      refine st_for_range s (ev_var rfl) (by omega) (by omega) (fun k e o => ∃ (ps : List (Int × Int)) (s4 s5 : Slot K), e = [sv (V.ref l), sv parts, sv size, sv (V.ref lf), s4, s5] ∧ o = [(l, Bag K), (lf, Own.lst K ps)] ∧ ps.length = k ∧ ∀ p ∈ ps, 0 ≤ p.1 ∧ p.1 < 4096 ∧ 0 < p.2 ∧ p.2 < 4096) ⟨[], _, _, rfl, rfl, rfl, fun _ z => nomatch z⟩ (fun k hk c hls e o g h σ N hI back s hN => ?_) (fun e o g h σ hI s => ?_)
      · obtain ⟨ps, s4, s5, rfl, rfl, hps, hall⟩ := hI
        -- top = [12, 12, 2000][_law_take(bag, 3)]
        refine st_setW (P := fun x : Int => 0 < x ∧ x ≤ 2000) s (EvW.imp (ew_op (Ev.w ev_l3) (ew_takeC (m := 0) rfl rfl ev_int ⟨by decide, by decide⟩) fun x y hx hy => ev_ixLD 0 (ev_var rfl) (ev_var rfl) hy.1 (by rw [hx]; exact hy.2)) fun z hz => ?_) (fun top ht v g h s => ?_)
        · obtain ⟨x, y, rfl, hy, rfl⟩ := hz
          have : y = 0 ∨ y = 1 ∨ y = 2 := by omega
          rcases this with rfl | rfl | rfl <;> decide
        try dsimp only
        -- found.append(_law_lowest(_law_take(bag, top), parts[_law_take(bag, 30)]))
        refine st_appendW (m := 1) (P := fun p : Int × Int => 0 ≤ p.1 ∧ p.1 < 4096 ∧ 0 < p.2 ∧ p.2 < 4096) s rfl rfl (Nat.lt_of_le_of_lt (show ps.length ≤ 1000 by omega) (by decide))
          (ew_call (eaw_cons (ew_takeC (m := 0) rfl rfl (ev_var rfl) ⟨ht.1, by omega⟩) (eaw_cons (ew_op (Ev.w (ev_var rfl)) (ew_takeC (m := 0) rfl rfl ev_int ⟨by decide, by decide⟩) fun x y hx hy => ev_ixLD 0 (ev_var rfl) (ev_var rfl) hy.1 (by rw [hx, hparts]; exact hy.2)) eaw_nil)) (fun xs hx => ?_)) (fun x hx g h s => ?_)
        · obtain ⟨n, _, hn, ⟨d, _, ⟨x, y, rfl, hy, rfl⟩, rfl, rfl⟩, rfl⟩ := hx
          have := parts_at y.toNat (by omega)
          rw [hparts]
          exact ⟨n, partsL.getD y.toNat 0, rfl, ⟨hn.1, this.1, Nat.lt_of_le_of_lt (show _ ≤ 720 by omega) (Nat.lt_of_lt_of_le (by decide : 720 < 2 ^ 10) (Nat.pow_le_pow_right (by decide) (by decide)))⟩, red_ok ⟨hn.1, by omega, this.1, by omega⟩⟩
        refine hN _ _ _ _ _ ⟨ps ++ [x], _, _, rfl, rfl, by rw [List.length_append, hps]; rfl, fun p hp => ?_⟩ s
        rcases List.mem_append.mp hp with hp | hp
        · exact hall p hp
        · rw [List.mem_singleton] at hp
          rw [hp]; exact hx
      · obtain ⟨ps, s4, s5, rfl, rfl, hps, hall⟩ := hI
        dsimp only
        -- if _law_take(bag, 2) == 1:
        refine st_if_cutW (fun e o => ∃ (ps : List (Int × Int)) (s4 s5 : Slot K), e = [sv (V.ref l), sv parts, sv size, sv (V.ref lf), s4, s5] ∧ o = [(l, Bag K), (lf, Own.lst K ps)] ∧ ps.length ≤ 64 ∧ ∀ p ∈ ps, 0 ≤ p.1 ∧ p.1 < 4096 ∧ 0 < p.2 ∧ p.2 < 4096) s
          (ewt_any (ewt_test (ew_op (ew_takeC (m := 0) rfl rfl ev_int ⟨by decide, by decide⟩) (Ev.w ev_int) fun x y _ _ => ev_eqI (ev_var rfl) (ev_var rfl)))) (fun e o g h σ hJ s => ?_) (fun _ g h N s hN => ?_) (fun _ g h N s hN => ?_)
        · obtain ⟨ps, s4, s5, rfl, rfl, hps, hall⟩ := hJ
          dsimp only
          obtain ⟨g', s⟩ := s.freezeW (i := 3) (m := 1) rfl rfl 1 rfl (by decide)
          -- return found
          refine st_ret s (ev_var rfl) ?_
          exact fun v g h s r => fin v _ g h _ _ _ _ (hP ps ⟨by omega, hall⟩) (fun p hp => hp) s (by simp) r
        · -- for k in range(_law_take(bag, 3)):
          refine st_rangeW s (ew_takeC (m := 0) rfl rfl ev_int ⟨by decide, by decide⟩) (fun n hn g h s => ?_)
          refine st_for_range s ev_int (by omega) (by omega) (fun k e o => ∃ (ps : List (Int × Int)) (s4 s5 : Slot K), e = [sv (V.ref l), sv parts, sv size, sv (V.ref lf), s4, s5] ∧ o = [(l, Bag K), (lf, Own.lst K ps)] ∧ ps.length ≤ 60 + k ∧ ∀ p ∈ ps, 0 ≤ p.1 ∧ p.1 < 4096 ∧ 0 < p.2 ∧ p.2 < 4096) ⟨ps, _, _, rfl, rfl, by omega, hall⟩ (fun k hk c hls e o g h σ N' hI back s hN' => ?_) (fun e o g h σ hI s => ?_)
          · obtain ⟨ps, s4, s5, rfl, rfl, hps, hall⟩ := hI
            -- found.append(_law_lowest(_law_take(bag, 50), 1 + _law_take(bag, 97)))
            refine st_appendW (m := 1) (P := fun p : Int × Int => 0 ≤ p.1 ∧ p.1 < 4096 ∧ 0 < p.2 ∧ p.2 < 4096) s rfl rfl (Nat.lt_of_le_of_lt (show ps.length ≤ 1000 by omega) (by decide))
              (ew_call (eaw_cons (ew_takeC (m := 0) rfl rfl ev_int ⟨by decide, by decide⟩) (eaw_cons (ew_op (Ev.w ev_int) (ew_takeC (m := 0) rfl rfl ev_int ⟨by decide, by decide⟩) fun x y hx hy => ev_i2 (ev_var rfl) (ev_var rfl)) eaw_nil)) (fun xs hx => ?_)) (fun x hx g h s => ?_)
            · obtain ⟨n, _, hn, ⟨d, _, ⟨x, y, rfl, hy, rfl⟩, rfl, rfl⟩, rfl⟩ := hx
              exact ⟨n, 1 + y, rfl, ⟨hn.1, by omega, Nat.lt_of_le_of_lt (show _ ≤ 720 by omega) (Nat.lt_of_lt_of_le (by decide : 720 < 2 ^ 10) (Nat.pow_le_pow_right (by decide) (by decide)))⟩, red_ok ⟨hn.1, by omega, by omega, by omega⟩⟩
            refine hN' _ _ _ _ _ ⟨ps ++ [x], _, _, rfl, rfl, by rw [List.length_append]; show ps.length + 1 ≤ _; omega, fun p hp => ?_⟩ s
            rcases List.mem_append.mp hp with hp | hp
            · exact hall p hp
            · rw [List.mem_singleton] at hp
              rw [hp]; exact hx
          · obtain ⟨ps, s4, s5, rfl, rfl, hps, hall⟩ := hI
            exact hN _ _ _ _ _ ⟨ps, _, _, rfl, rfl, by omega, hall⟩ s
        · exact hN _ _ _ _ _ ⟨ps, _, _, rfl, rfl, by omega, hall⟩ s
    · -- size = 60
      refine st_set s ev_int (fun v g h s => ?_)
      exact hN _ _ _ _ _ ⟨60, by decide, rfl, rfl⟩ s
    · exact hN _ _ _ _ _ ⟨size, by omega, rfl, rfl⟩ s
def a_redholds (K : PySem.W.Frag) : List (Slot K) → Os → (Bool → Os → Prop) → Prop := fun xs os P => ∃ l : Addr, xs = [sv (V.ref l)] ∧ os = [(l, Bag K)] ∧ P true os
theorem small_ok {d : Int} (h : d.natAbs < 2 ^ 30) : d.natAbs < 2 ^ 4000 := Nat.lt_of_lt_of_le h (Nat.pow_le_pow_right (by decide) (by decide))
theorem sc_law_reduced_holds : FnScope ["bag", "most", "common", "numerator", "denominator"] ["bag"] (defScope (topS 25)) := ⟨rfl, rfl, rfl, by decide +kernel, rfl, by decide +kernel, by decide +kernel⟩
theorem ok_law_reduced_holds (E : FX K mg) : Cal P w K mg base "_law_reduced_holds" 3 ["bag"] (SpW K (a_redholds K)) := by
  refine E.cal 21 21 (st := topS 25) rfl rfl (fun _ _ _ _ _ _ us hl => match us, hl with | [_], _ => rfl) fun f fd F => okWD F sc_law_reduced_holds (fun xs os P' h => ?_) (fun cdv Ar outer s0 H0 E0 hr xs os P' h => ?_)
  · obtain ⟨_, rfl, _⟩ := h; rfl
  · obtain ⟨l, rfl, rfl, hP⟩ := h
    refine ⟨_, (pss_cons (ps_set (i := 1) sc_law_reduced_holds.nd rfl (.inl rfl) pe_int)
    (pss_cons (ps_if (pt_cmpR op_eq (pe_c (ok_law_take E) (hr.mono (by decide)) rfl (pa_cons (pv 0) (pa_cons pe_int pa_nil))) pe_int (nomark _)) (pss_one (ps_set (i := 1) sc_law_reduced_holds.nd rfl (.inl rfl) pe_int)) pss_nil)
    (pss_cons (ps_set (i := 2) sc_law_reduced_holds.nd rfl (.inl rfl) (pe_op op_add pe_int (pe_c (ok_law_take E) (hr.mono (by decide)) rfl (pa_cons (pv 0) (pa_cons (pv 1) pa_nil)))))
    (pss_cons (ps_set (i := 3) sc_law_reduced_holds.nd rfl (.inl rfl) (pe_op op_mul (pe_c (ok_law_take E) (hr.mono (by decide)) rfl (pa_cons (pv 0) (pa_cons pe_int pa_nil))) (pv 2)))
    (pss_cons (ps_set (i := 4) sc_law_reduced_holds.nd rfl (.inl rfl) (pe_op op_mul (pe_op op_add pe_int (pe_c (ok_law_take E) (hr.mono (by decide)) rfl (pa_cons (pv 0) (pa_cons pe_int pa_nil)))) (pv 2)))
    (pss_cons (ps_if (pt_not (pt_val (pe_c (ok_law_is_pair E) (hr.mono (by decide)) rfl (pa_cons (pe_c (ok_reduced E) (hr.mono (by decide)) rfl (pa_cons (pv 3) (pa_cons (pv 4) pa_nil))) (pa_cons (pe_c (ok_law_lowest E) (hr.mono (by decide)) rfl (pa_cons (pv 3) (pa_cons (pv 4) pa_nil))) pa_nil))))) (pss_one (ps_ret pe_bl)) pss_nil)
    (pss_cons (ps_if (pt_cmpR op_eq (pv 3) pe_int (nomark _)) (pss_one (ps_ret (pe_c (ok_law_is_pair E) (hr.mono (by decide)) rfl (pa_cons (pe_c (ok_reduced E) (hr.mono (by decide)) rfl (pa_cons pe_int (pa_cons pe_int pa_nil))) (pa_cons (pe_tup (pa_cons pe_int (pa_cons pe_int pa_nil))) pa_nil))))) pss_nil)
    (pss_one (ps_ret (pe_c (ok_law_is_pair E) (hr.mono (by decide)) rfl (pa_cons (pe_c (ok_reduced E) (hr.mono (by decide)) rfl (pa_cons (pv 4) (pa_cons (pv 3) pa_nil))) (pa_cons (pe_c (ok_law_lowest E) (hr.mono (by decide)) rfl (pa_cons (pv 4) (pa_cons (pv 3) pa_nil))) pa_nil)))))))))))), fun g σ Q s fin => ?_⟩
    have fin2 : ∀ (c : Bool) v g' h' σ' env', c = true → S0 ⟨[(l, Bag K)].map (·.1), g, H0⟩ g' h' σ' (env' : Lw.Env K) [(l, Bag K)] → v = V.bl c → Q v h' := fun c v g' h' σ' env' e s r =>
      fin v true g' h' σ' env' _ _ hP (fun q hq => hq) s (by simp) (by rw [← e]; exact r)
    -- most = 180
    refine st_set s ev_int (fun v g h s => ?_)
    try dsimp only
    -- if _law_take(bag, 6) == 1:
    refine st_if_cutW (fun e o => ∃ most : Int, (0 < most ∧ most ≤ 16666) ∧ e = [sv (V.ref l), sv most, .unk, .unk, .unk] ∧ o = [(l, Bag K)]) s
      (ewt_any (ewt_test (ew_op (ew_takeC (m := 0) rfl rfl ev_int ⟨by decide, by decide⟩) (Ev.w ev_int) fun x y _ _ => ev_eqI (ev_var rfl) (ev_var rfl)))) (fun e o g h σ hJ s => ?_) (fun _ g h N s hN => ?_) (fun _ g h N s hN => ?_)
    · obtain ⟨most, hm, rfl, rfl⟩ := hJ
      dsimp only
      -- common = 1 + _law_take(bag, most)
      refine st_setW (P := fun x : Int => 1 ≤ x ∧ x ≤ 16666) s (EvW.imp (ew_op (Ev.w ev_int) (ew_takeC (m := 0) rfl rfl (ev_var rfl) ⟨hm.1, by omega⟩) fun x y _ _ => ev_i2 (ev_var rfl) (ev_var rfl)) fun z ⟨x, y, hx, hy, hz⟩ => by omega) (fun common hc v g h s => ?_)
      try dsimp only
      -- numerator = _law_take(bag, 60) * common
      refine st_setW (P := fun x : Int => ∃ r : Int, (0 ≤ r ∧ r < 60) ∧ x = r * common) s (EvW.imp (ew_op (ew_takeC (m := 0) rfl rfl ev_int ⟨by decide, by decide⟩) (Ev.w (ev_var rfl)) fun x y hx hy => ev_iC (ev_var rfl) (ev_var rfl) (by exact .inl ⟨by omega, by omega⟩)) fun z ⟨x, y, hx, hy, hz⟩ => ⟨x, hx, by rw [hz, hy]⟩) (fun num hnum v g h s => ?_)
      try dsimp only
      -- denominator = (1 + _law_take(bag, 60)) * common
      refine st_setW (P := fun x : Int => ∃ r : Int, (1 ≤ r ∧ r < 61) ∧ x = r * common) s (EvW.imp (ew_op (EvW.imp (P' := fun x : Int => 1 ≤ x ∧ x < 61) (ew_op (Ev.w ev_int) (ew_takeC (m := 0) rfl rfl ev_int ⟨by decide, by decide⟩) fun x y _ _ => ev_i2 (ev_var rfl) (ev_var rfl)) fun z ⟨x, y, hx, hy, hz⟩ => by omega) (Ev.w (ev_var rfl)) fun x y hx hy => ev_iC (ev_var rfl) (ev_var rfl) (by exact .inl ⟨by omega, by omega⟩)) fun z ⟨x, y, hx, hy, hz⟩ => ⟨x, hx, by rw [hz, hy]⟩) (fun den hden v g h s => ?_)
      obtain ⟨rn, hrn, hnum⟩ := hnum
      obtain ⟨rd, hrd, hden⟩ := hden
      have n0 : 0 ≤ num := by rw [hnum]; exact Int.mul_nonneg hrn.1 (by omega)
      have n1 : num ≤ 60 * 16666 := by rw [hnum]; exact Int.mul_le_mul (by omega) hc.2 (by omega) (by decide)
      have d0 : 0 < den := by rw [hden]; exact Int.mul_pos (by omega) (by omega)
      have d1 : den ≤ 61 * 16666 := by rw [hden]; exact Int.mul_le_mul (by omega) hc.2 (by omega) (by decide)
      have dd : den.natAbs < 2 ^ 4000 := small_ok (Nat.lt_of_le_of_lt (show _ ≤ 61 * 16666 by omega) (by decide))
      have dn : num.natAbs < 2 ^ 4000 := small_ok (Nat.lt_of_le_of_lt (show _ ≤ 61 * 16666 by omega) (by decide))
      clear hnum hden
      try dsimp only
      -- if not _law_is_pair(reduced(numerator, denominator), _law_lowest(numerator, denominator)):
      refine st_if s (et_not (et_B (ev_call (ea_cons (ev_call (ea_cons (ev_var rfl) (ea_cons (ev_var rfl) ea_nil)) ⟨_, _, rfl, ⟨n0, d0, dd⟩, rfl⟩) (ea_cons (ev_call (ea_cons (ev_var rfl) (ea_cons (ev_var rfl) ea_nil)) ⟨_, _, rfl, ⟨n0, d0, dd⟩, rfl⟩) ea_nil)) ⟨_, _, rfl, rfl⟩))) (fun hc g h s => ?_) (fun hc g h s => ?_)
      · simp at hc
      · dsimp only [tNext]
        -- if numerator == 0:
        refine st_if s (et_test (ev_eqI (ev_var rfl) ev_int)) (fun hc g h s => ?_) (fun hc g h s => ?_)
        · -- return _law_is_pair(reduced(0, 1), (0, 1))
          refine st_ret s (ev_call (ea_cons (ev_call (ea_cons ev_int (ea_cons ev_int ea_nil)) ⟨_, _, rfl, ⟨by decide, by decide, small_ok (by decide)⟩, rfl⟩) (ea_cons (ev_pair ev_int ev_int) ea_nil)) ⟨_, _, rfl, rfl⟩) ?_
          exact fun v g h s r => fin2 _ v g h _ _ (by decide) s r
        · have hn : num ≠ 0 := by simpa using hc
          dsimp only [tNext]
          -- return _law_is_pair(reduced(denominator, numerator), _law_lowest(denominator, numerator))
          refine st_ret s (ev_call (ea_cons (ev_call (ea_cons (ev_var rfl) (ea_cons (ev_var rfl) ea_nil)) ⟨_, _, rfl, ⟨by omega, by omega, dn⟩, rfl⟩) (ea_cons (ev_call (ea_cons (ev_var rfl) (ea_cons (ev_var rfl) ea_nil)) ⟨_, _, rfl, ⟨by omega, by omega, dn⟩, rfl⟩) ea_nil)) ⟨_, _, rfl, rfl⟩) ?_
          exact fun v g h s r => fin2 _ v g h _ _ (by simp) s r
    · -- most = 16666
      refine st_set s ev_int (fun v g h s => ?_)
      exact hN _ _ _ _ _ ⟨_, by decide, rfl, rfl⟩ s
    · exact hN _ _ _ _ _ ⟨_, by decide, rfl, rfl⟩ s
end K34
/-! The plain law: what the orders tell is what the groups tell. -/
namespace K34
open PySem Lw PyProof.Rows L2
/-! ### lists of small numbers by the digits of a sum -/
def sumB (L : List Nat) : Nat := (L.map (1024 ^ ·)).sum
def zc : List Nat → Nat
  | [] => 0
  | 0 :: r => zc r + 1
  | (_ + 1) :: r => zc r
def prd : List Nat → List Nat
  | [] => []
  | 0 :: r => prd r
  | (x + 1) :: r => x :: prd r
theorem zc_le : ∀ L, zc L + (prd L).length = L.length
  | [] => rfl
  | 0 :: r => by have := zc_le r; show zc r + 1 + (prd r).length = r.length + 1; omega
  | (_ + 1) :: r => by have := zc_le r; show zc r + ((prd r).length + 1) = r.length + 1; omega
theorem sumB_split : ∀ L, sumB L = zc L + 1024 * sumB (prd L)
  | [] => rfl
  | 0 :: r => by
    have := sumB_split r
    show 1024 ^ 0 + sumB r = zc r + 1 + 1024 * sumB (prd r)
    rw [this]; omega
  | (x + 1) :: r => by
    have := sumB_split r
    show 1024 ^ (x + 1) + sumB r = zc r + 1024 * (1024 ^ x + sumB (prd r))
    rw [this, Nat.pow_succ]; omega
theorem sumF_split (F : Nat → Int) : ∀ L, (L.map F).sum = zc L * F 0 + ((prd L).map fun x => F (x + 1)).sum
  | [] => by show (0 : Int) = ((0 : Nat) : Int) * F 0 + 0; omega
  | 0 :: r => by
    have := sumF_split F r
    rw [List.map_cons, List.sum_cons, this, show zc (0 :: r) = zc r + 1 from rfl, show prd (0 :: r) = prd r from rfl, Int.natCast_add, Int.add_mul]
    show _ = _ + (1 : Int) * F 0 + _
    rw [Int.one_mul]
    omega
  | (x + 1) :: r => by
    have := sumF_split F r
    rw [List.map_cons, List.sum_cons, this, show zc ((x + 1) :: r) = zc r from rfl, show prd ((x + 1) :: r) = x :: prd r from rfl, List.map_cons, List.sum_cons]
    omega
theorem prd_lt {m : Nat} : ∀ {L : List Nat}, (∀ x ∈ L, x < m + 1) → ∀ x ∈ prd L, x < m
  | [], _, x, hx => nomatch hx
  | 0 :: r, h, x, hx => prd_lt (L := r) (fun y hy => h y (List.mem_cons_of_mem _ hy)) x hx
  | (z + 1) :: r, h, x, hx => by
    rcases List.mem_cons.mp hx with rfl | hx
    · have := h (x + 1) List.mem_cons_self; omega
    · exact prd_lt (L := r) (fun y hy => h y (List.mem_cons_of_mem _ hy)) x hx
theorem digits : ∀ (m : Nat) (L W : List Nat), (∀ x ∈ L, x < m) → (∀ x ∈ W, x < m) → L.length < 1024 → W.length < 1024 → sumB L = sumB W → ∀ F : Nat → Int, (L.map F).sum = (W.map F).sum
  | 0, L, W, hL, hW, _, _, _, F => by
    have e1 : L = [] := List.eq_nil_iff_forall_not_mem.mpr fun x hx => Nat.not_lt_zero _ (hL x hx)
    have e2 : W = [] := List.eq_nil_iff_forall_not_mem.mpr fun x hx => Nat.not_lt_zero _ (hW x hx)
    rw [e1, e2]
  | m + 1, L, W, hL, hW, lL, lW, e, F => by
    have a := zc_le L
    have b := zc_le W
    rw [sumB_split L, sumB_split W] at e
    have e1 : zc L = zc W := by omega
    have e2 : sumB (prd L) = sumB (prd W) := by omega
    have := digits m (prd L) (prd W) (prd_lt hL) (prd_lt hW) (by omega) (by omega) e2 fun x => F (x + 1)
    rw [sumF_split F L, sumF_split F W, e1, this]
/-! ### the orders and the groups -/
def preF (p : Int) : List Int → Int
  | [] => 0
  | q :: r => if q = p then 0 else 2 ^ q.toNat + preF p r
def LpN (n p : Nat) : List Nat := (ordersF n).map fun o => (preF p o).toNat
def WpN (n p : Nat) : List Nat := (allS (List.replicate n 1)).flatMap fun g => if g[p]? = some 0 then List.replicate (manyF n g).toNat (maskF n g).toNat else []
def cnts (L : List Nat) : Nat := L.foldl (fun a x => a + 1024 ^ x) 0
theorem cnts_eq (L : List Nat) : cnts L = sumB L := by
  have : ∀ (L : List Nat) (a : Nat), L.foldl (fun a x => a + 1024 ^ x) a = a + sumB L := by
    intro L
    induction L with
    | nil => intro a; rfl
    | cons x r ih => intro a; rw [List.foldl_cons, ih]; show _ = a + (1024 ^ x + sumB r); omega
  unfold cnts
  rw [this]; omega
theorem perm6 : ∀ n, n ≤ 6 → ∀ p, p < n → cnts (LpN n p) = cnts (WpN n p) := by decide +kernel
theorem small6 : ∀ n, n ≤ 6 → ∀ p, p < n → (LpN n p).length < 1024 ∧ (WpN n p).length < 1024 ∧ (∀ x ∈ LpN n p, x < 64) ∧ ∀ x ∈ WpN n p, x < 64 := by decide +kernel
theorem lenO : ∀ n, n ≤ 6 → (ordersF n).length = Builtin.Math.factorialNat n := by decide +kernel
/-! ### the table -/
theorem mem_allS : ∀ (n : Nat) (t : List Int), t.length = n → (∀ x ∈ t, x = 0 ∨ x = 1) → t ∈ allS (List.replicate n 1)
  | 0, [], _, _ => List.mem_cons_self
  | n + 1, x :: t, h, hx => by
    rw [List.replicate_succ]
    show x :: t ∈ (upto ((1 : Int) + 1).toNat).flatMap fun l => (allS (List.replicate n 1)).map (l :: ·)
    rw [List.mem_flatMap]
    refine ⟨x, ?_, List.mem_map_of_mem (mem_allS n t (by simpa using h) fun y hy => hx y (List.mem_cons_of_mem _ hy))⟩
    rcases hx x List.mem_cons_self with rfl | rfl <;> decide
theorem below_mask : ∀ n, n ≤ 6 → ∀ t ∈ allS (List.replicate n 1), ∀ g ∈ allS (List.replicate n 1), belowB t g = decide (Builtin.bitAnd (maskF n t) (maskF n g) = maskF n t) := by decide +kernel
def joinOk (n : Nat) (g : List Int) (p : Nat) : Bool := !(g.getD p 1 == 0) || ((allS (List.replicate n 1)).contains (joinS g p) && maskF n (joinS g p) == maskF n g + 2 ^ p)
theorem join_all : ∀ n, n ≤ 6 → ∀ g ∈ allS (List.replicate n 1), ∀ p, p < n → joinOk n g p = true := by decide +kernel
theorem join_mask (n : Nat) (hn : n ≤ 6) (g : List Int) (hg : g ∈ allS (List.replicate n 1)) (p : Nat) (hp : p < n) (h0 : g[p]? = some 0) : joinS g p ∈ allS (List.replicate n 1) ∧ maskF n (joinS g p) = maskF n g + 2 ^ p := by
  have := join_all n hn g hg p hp
  unfold joinOk at this
  rw [List.getD_eq_getElem?_getD, h0] at this
  simpa using this
theorem mask_rng : ∀ n, n ≤ 6 → ∀ g ∈ allS (List.replicate n 1), 0 ≤ maskF n g ∧ maskF n g < 2 ^ n := by decide +kernel
theorem many_nn : ∀ n, n ≤ 6 → ∀ g ∈ allS (List.replicate n 1), 0 ≤ manyF n g := by decide +kernel
/-- the table at a mask -/
theorem tab_at {n : Nat} {told : List (Tup Int)} {x : Int} (h0 : 0 ≤ x) (h1 : x < 2 ^ n) : tabAt (tableF n told) x = told.any fun t => decide (Builtin.bitAnd (maskF n t.l) x = maskF n t.l) := by
  have hx : x.toNat < 2 ^ n := by
    have : ((2 ^ n : Nat) : Int) = (2 : Int) ^ n := by push_cast; rfl
    omega
  unfold tabAt tableF
  rw [List.getD_eq_getElem?_getD, List.getElem?_map, upto_get hx, Option.map_some, Option.getD_some, List.any_map]
  have e : ((x.toNat : Nat) : Int) = x := by omega
  rw [e]
  rfl
theorem tab_br {n : Nat} (hn : n ≤ 6) {told : List (Tup Int)} (hT : TOk n told) {g : List Int} (hg : g ∈ allS (List.replicate n 1)) : tabAt (tableF n told) (maskF n g) = brB told g := by
  have hr := mask_rng n hn g hg
  rw [tab_at hr.1 hr.2]
  unfold brB
  rw [Bool.eq_iff_iff, List.any_eq_true, List.any_eq_true]
  constructor
  · rintro ⟨t, ht, h⟩
    exact ⟨t, ht, by rw [below_mask n hn t.l (mem_allS n t.l (hT.2 t ht).1 (hT.2 t ht).2) g hg]; exact h⟩
  · rintro ⟨t, ht, h⟩
    exact ⟨t, ht, by rw [below_mask n hn t.l (mem_allS n t.l (hT.2 t ht).1 (hT.2 t ht).2) g hg] at h; exact h⟩
/-! ### along an order the table only rises -/
def chkO (n G : Nat) : List Int → Bool
  | [] => true
  | p :: r => !(G.testBit p.toNat) && decide (G + 2 ^ p.toNat < 2 ^ n) && decide (p.toNat < 6) && chkO n (G + 2 ^ p.toNat) r
theorem chk_all : ∀ n, n ≤ 6 → ∀ o ∈ ordersF n, chkO n 0 o = true := by decide +kernel
def upOk (m G p : Nat) : Bool := G.testBit p || !(decide (G + 2 ^ p < 64)) || !(Nat.beq (m &&& G) m) || Nat.beq (m &&& (G + 2 ^ p)) m
theorem up_all : ∀ m, m < 64 → ∀ G, G < 64 → ∀ p, p < 6 → upOk m G p = true := by decide +kernel
/-- T only rises along o from G on -/
def Rises (T : Int → Bool) : Int → List Int → Prop
  | _, [] => True
  | G, p :: r => (T G = true → T (G + 2 ^ p.toNat) = true) ∧ Rises T (G + 2 ^ p.toNat) r
theorem falls_len {T : Int → Bool} : ∀ {o : List Int} {G : Int}, Rises T G o → (fallsIn T G (T G) o).length = if T G = false ∧ T (G + (o.map fun p => (2 : Int) ^ p.toNat).sum) = true then 1 else 0
  | [], G, _ => by
    show 0 = if T G = false ∧ T (G + 0) = true then 1 else 0
    rw [Int.add_zero]
    cases T G <;> rfl
  | p :: r, G, h => by
    have ih := falls_len h.2
    show (if (T (G + 2 ^ p.toNat) && !(T G)) = true then p :: fallsIn T (G + 2 ^ p.toNat) true r else fallsIn T (G + 2 ^ p.toNat) (T G) r).length = _
    rw [List.map_cons, List.sum_cons, ← Int.add_assoc]
    cases hG : T G with
    | true =>
      rw [h.1 hG] at ih ⊢
      simp at ih ⊢
      exact ih
    | false =>
      cases hp : T (G + 2 ^ p.toNat) with
      | false => rw [hp] at ih; simpa using ih
      | true =>
        rw [hp] at ih
        have up : ∀ (o : List Int) (G : Int), Rises T G o → T G = true → T (G + (o.map fun p => (2 : Int) ^ p.toNat).sum) = true := by
          intro o
          induction o with
          | nil => intro G _ h; show T (G + 0) = true; rw [Int.add_zero]; exact h
          | cons a o ih2 => intro G h1 h2; rw [List.map_cons, List.sum_cons, ← Int.add_assoc]; exact ih2 _ h1.2 (h1.1 h2)
        have := up r _ h.2 hp
        simp at ih
        simp [this, ih]
theorem pow_le64 {n : Nat} (hn : n ≤ 6) : 2 ^ n ≤ 64 := Nat.pow_le_pow_right (n := 2) (by decide) hn
theorem natpow {n : Nat} : ((2 ^ n : Nat) : Int) = (2 : Int) ^ n := by push_cast; rfl
theorem tab_up {n : Nat} (hn : n ≤ 6) {told : List (Tup Int)} (hT : TOk n told) {G p : Nat} (hG : G + 2 ^ p < 2 ^ n) (hp : p < 6) (hb : G.testBit p = false) (h : tabAt (tableF n told) G = true) : tabAt (tableF n told) ((G : Int) + 2 ^ p) = true := by
  have h64 := pow_le64 hn
  have e1 := @natpow n
  have e2 := @natpow p
  have e4 : 0 < 2 ^ p := Nat.pow_pos (by decide)
  rw [tab_at (by omega) (by omega), List.any_eq_true] at h
  obtain ⟨t, ht, h⟩ := h
  have hm := mask_rng n hn t.l (mem_allS n t.l (hT.2 t ht).1 (hT.2 t ht).2)
  rw [tab_at (by omega) (by omega), List.any_eq_true]
  refine ⟨t, ht, ?_⟩
  rw [decide_eq_true_iff] at h ⊢
  rw [bitAnd_pp hm.1 (by omega)] at h ⊢
  have h' : (maskF n t.l).toNat &&& G = (maskF n t.l).toNat := by
    have : (((maskF n t.l).toNat &&& (G : Int).toNat : Nat) : Int) = ((maskF n t.l).toNat : Int) := by rw [h]; omega
    rw [Int.toNat_natCast] at this
    exact Int.ofNat_inj.mp this
  have u := up_all (maskF n t.l).toNat (by omega) G (by omega) p hp
  unfold upOk at u
  rw [hb] at u
  simp only [Bool.false_or, Bool.or_eq_true, Bool.not_eq_true', decide_eq_false_iff_not] at u
  have e3 : ((G : Int) + 2 ^ p).toNat = G + 2 ^ p := by omega
  rw [e3]
  rcases u with (u | u) | u
  · omega
  · rw [h', Nat.beq_refl] at u; cases u
  · rw [Nat.eq_of_beq_eq_true u]; omega
theorem rises {n : Nat} (hn : n ≤ 6) {told : List (Tup Int)} (hT : TOk n told) : ∀ (o : List Int) (G : Nat), chkO n G o = true → Rises (tabAt (tableF n told)) (G : Int) o
  | [], _, _ => trivial
  | p :: r, G, h => by
    have h0 : (!(G.testBit p.toNat) && decide (G + 2 ^ p.toNat < 2 ^ n) && decide (p.toNat < 6) && chkO n (G + 2 ^ p.toNat) r) = true := h
    rw [Bool.and_eq_true, Bool.and_eq_true, Bool.and_eq_true, decide_eq_true_iff, decide_eq_true_iff, Bool.not_eq_true'] at h0
    have ih := rises hn hT r _ h0.2
    refine ⟨fun e => tab_up hn hT h0.1.1.2 h0.1.2 h0.1.1.1 e, ?_⟩
    have e : (((G + 2 ^ p.toNat : Nat)) : Int) = (G : Int) + 2 ^ p.toNat := by push_cast; rfl
    rw [e] at ih
    exact ih
theorem falls_sub {T : Int → Bool} : ∀ {o : List Int} {G : Int} {f : Bool}, ∀ x ∈ fallsIn T G f o, x ∈ o
  | [], _, _, x, h => nomatch h
  | p :: r, G, f, x, h => by
    have h' : x ∈ (if (T (G + 2 ^ p.toNat) && !f) = true then p :: fallsIn T (G + 2 ^ p.toNat) true r else fallsIn T (G + 2 ^ p.toNat) f r) := h
    split at h'
    · rcases List.mem_cons.mp h' with rfl | h'
      · exact List.mem_cons_self
      · exact List.mem_cons_of_mem _ (falls_sub x h')
    · exact List.mem_cons_of_mem _ (falls_sub x h')
theorem cnt_none {p : Nat} {xs : List Int} (h : (p : Int) ∉ xs) : cntI p xs = 0 := by unfold cntI; rw [List.count_eq_zero.mpr h]; rfl
theorem cntI_cons (p : Nat) (a : Int) (xs : List Int) : cntI p (a :: xs) = (if a = (p : Int) then 1 else 0) + cntI p xs := by
  unfold cntI
  rw [List.count_cons]
  by_cases h : a = (p : Int)
  · rw [if_pos h, if_pos (by rw [h]; exact beq_self_eq_true _)]; omega
  · rw [if_neg h, if_neg (by rw [beq_iff_eq]; exact h)]; omega
theorem falls_cnt {T : Int → Bool} {p : Nat} : ∀ {o : List Int} {G : Int}, Rises T G o → o.Nodup → (p : Int) ∈ o → cntI p (fallsIn T G (T G) o) = if T (G + preF p o) = false ∧ T (G + preF p o + 2 ^ p) = true then 1 else 0
  | [], _, _, _, h => nomatch h
  | q :: r, G, h, nd, hm => by
    have nd' := List.nodup_cons.mp nd
    show cntI p (if (T (G + 2 ^ q.toNat) && !(T G)) = true then q :: fallsIn T (G + 2 ^ q.toNat) true r else fallsIn T (G + 2 ^ q.toNat) (T G) r) = _
    by_cases hq : q = (p : Int)
    · subst hq
      rw [show preF (p : Int) ((p : Int) :: r) = 0 from if_pos rfl, Int.add_zero, Int.toNat_natCast]
      have z : ∀ f, cntI p (fallsIn T (G + 2 ^ p) f r) = 0 := fun f => cnt_none fun hx => nd'.1 (falls_sub _ hx)
      cases hG : T G <;> cases hp : T (G + 2 ^ p) <;> simp [z, cntI_cons]
    · have hmr : (p : Int) ∈ r := (List.mem_cons.mp hm).resolve_left (fun e => hq e.symm)
      have ih := falls_cnt h.2 nd'.2 hmr
      rw [show preF (p : Int) (q :: r) = 2 ^ q.toNat + preF (p : Int) r from if_neg hq, ← Int.add_assoc, ← ih]
      cases hG : T G with
      | true => rw [h.1 hG]; rfl
      | false =>
        cases hp : T (G + 2 ^ q.toNat) with
        | true =>
          show cntI p (q :: fallsIn T (G + 2 ^ q.toNat) true r) = _
          rw [cntI_cons, if_neg hq, Int.zero_add]
        | false => rfl
theorem ord_nd : ∀ n, n ≤ 6 → ∀ o ∈ ordersF n, o.Nodup := by decide +kernel
theorem ord_all : ∀ n, n ≤ 6 → ∀ o ∈ ordersF n, ∀ p, p < n → (p : Int) ∈ o := by decide +kernel
theorem pre_nn (p : Int) : ∀ o : List Int, 0 ≤ preF p o
  | [] => Int.le_refl _
  | q :: r => by
    show 0 ≤ if q = p then 0 else 2 ^ q.toNat + preF p r
    have := pre_nn p r
    have := two_pow_nn q.toNat
    split <;> omega
theorem sum_flatMap {α β : Type} (f : α → List β) (F : β → Int) (L : List α) : ((L.flatMap f).map F).sum = (L.map fun x => ((f x).map F).sum).sum := by
  induction L with
  | nil => rfl
  | cons a L ih => rw [List.flatMap_cons, List.map_append, List.sum_append, ih, List.map_cons, List.sum_cons]
theorem cnt_flatMap {α : Type} (p : Nat) (f : α → List Int) (L : List α) : cntI p (L.flatMap f) = (L.map fun x => cntI p (f x)).sum := by
  induction L with
  | nil => rfl
  | cons a L ih => rw [List.flatMap_cons, cnt_app, ih, List.map_cons, List.sum_cons]
theorem sum_rep {β : Type} (F : β → Int) (k : Nat) (x : β) : ((List.replicate k x).map F).sum = k * F x := by
  induction k with
  | zero => rw [List.replicate_zero, List.map_nil, List.sum_nil]; show (0 : Int) = 0 * F x; rw [Int.zero_mul]
  | succ k ih => rw [List.replicate_succ, List.map_cons, List.sum_cons, ih, Int.natCast_succ, Int.add_mul, Int.one_mul]; omega
theorem main1 {n : Nat} (hn : n ≤ 6) {told : List (Tup Int)} (hT : TOk n told) {p : Nat} (hp : p < n) : fallsF n told p = ordP n told p := by
  have hs := small6 n hn p hp
  have hperm := perm6 n hn p hp
  rw [cnts_eq, cnts_eq] at hperm
  have key := digits 64 (LpN n p) (WpN n p) hs.2.2.1 hs.2.2.2 hs.1 hs.2.1 hperm fun x => if tabAt (tableF n told) (x : Int) = false ∧ tabAt (tableF n told) ((x : Int) + 2 ^ p) = true then 1 else 0
  unfold fallsF ordP
  rw [cnt_flatMap]
  unfold LpN WpN at key
  rw [List.map_map, sum_flatMap] at key
  refine Eq.trans ?_ (key.trans ?_)
  · congr 1
    apply List.map_congr_left
    intro o ho
    have := falls_cnt (T := tabAt (tableF n told)) (p := p) (o := o) (G := 0) (rises hn hT o 0 (chk_all n hn o ho)) (ord_nd n hn o ho) (ord_all n hn o ho p hp)
    rw [Int.zero_add] at this
    rw [this]
    show _ = if tabAt (tableF n told) (((preF p o).toNat : Nat) : Int) = false ∧ tabAt (tableF n told) ((((preF p o).toNat : Nat) : Int) + 2 ^ p) = true then (1 : Int) else 0
    rw [Int.toNat_of_nonneg (pre_nn _ _)]
  · congr 1
    apply List.map_congr_left
    intro g hg
    unfold contrib
    by_cases h0 : g[p]? = some 0
    · rw [if_pos h0, sum_rep]
      have hr := mask_rng n hn g hg
      have hj := join_mask n hn g hg p hp h0
      have e : (((maskF n g).toNat : Nat) : Int) = maskF n g := Int.toNat_of_nonneg hr.1
      have e2 : (((manyF n g).toNat : Nat) : Int) = manyF n g := Int.toNat_of_nonneg (many_nn n hn g hg)
      rw [e, e2, tab_br hn hT hg, ← hj.2, tab_br hn hT hj.1]
      by_cases hc : brB told g = false ∧ brB told (joinS g p) = true
      · rw [if_pos hc, if_pos ⟨hc.1, h0, hc.2⟩, Int.mul_one]
      · rw [if_neg hc, if_neg (fun z => hc ⟨z.1, z.2.2⟩), Int.mul_zero]
    · rw [if_neg h0, if_neg (fun z => h0 z.2.1)]
      rfl
/-! ### the sum of all shares -/
theorem sum_cnt : ∀ (n : Nat) (xs : List Int), (∀ x ∈ xs, 0 ≤ x ∧ x < n) → ((List.range n).map fun p => cntI p xs).sum = xs.length
  | n, [], _ => by
    have : ∀ m : Nat, ((List.range m).map fun p => cntI p []).sum = 0 := by
      intro m
      induction m with
      | zero => rfl
      | succ m ih => rw [List.range_succ, List.map_append, List.sum_append, ih]; rfl
    exact this n
  | n, x :: xs, h => by
    have ih := sum_cnt n xs fun y hy => h y (List.mem_cons_of_mem _ hy)
    have hx := h x List.mem_cons_self
    have key : ∀ m : Nat, ((List.range m).map fun p => cntI p (x :: xs)).sum = (if x < m then 1 else 0) + ((List.range m).map fun p => cntI p xs).sum := by
      intro m
      induction m with
      | zero => rw [if_neg (by omega)]; rfl
      | succ m ih2 =>
        rw [List.range_succ, List.map_append, List.sum_append, ih2, List.map_append, List.sum_append, List.map_singleton, List.map_singleton, List.sum_singleton, List.sum_singleton, cntI_cons]
        split <;> split <;> split <;> omega
    rw [key n, ih, if_pos hx.2, List.length_cons]
    omega
theorem sum_swap {α β : Type} (F : α → β → Int) (L : List α) (M : List β) : (L.map fun x => (M.map fun y => F x y).sum).sum = (M.map fun y => (L.map fun x => F x y).sum).sum := by
  induction L with
  | nil =>
    show (0 : Int) = _
    induction M with
    | nil => rfl
    | cons b M ih => rw [List.map_cons, List.sum_cons, ← ih]; rfl
  | cons a L ih =>
    rw [List.map_cons, List.sum_cons, ih]
    clear ih
    induction M with
    | nil => rfl
    | cons b M ih => rw [List.map_cons, List.sum_cons, List.map_cons, List.sum_cons, List.map_cons, List.sum_cons, List.map_cons, List.sum_cons, ← ih]; omega
def wholeB (n : Nat) (told : List (Tup Int)) : Prop := tabAt (tableF n told) 0 = false ∧ tabAt (tableF n told) (2 ^ n - 1) = true
instance (n : Nat) (told : List (Tup Int)) : Decidable (wholeB n told) := by unfold wholeB; exact inferInstance
theorem main2 {n : Nat} (hn : n ≤ 6) {told : List (Tup Int)} (hT : TOk n told) : ((List.range n).map fun p => fallsF n told p).sum = if wholeB n told then ((ordersF n).length : Int) else 0 := by
  unfold fallsF
  have e : (fun p => cntI p ((ordersF n).flatMap fun o => fallsIn (tabAt (tableF n told)) 0 (tabAt (tableF n told) 0) o)) = fun p => ((ordersF n).map fun o => cntI p (fallsIn (tabAt (tableF n told)) 0 (tabAt (tableF n told) 0) o)).sum := by
    funext p
    rw [cnt_flatMap]
  rw [e, sum_swap]
  have each : ∀ o ∈ ordersF n, ((List.range n).map fun p => cntI p (fallsIn (tabAt (tableF n told)) 0 (tabAt (tableF n told) 0) o)).sum = if wholeB n told then 1 else 0 := by
    intro o ho
    rw [sum_cnt n _ fun x hx => ord_mem n hn o ho x (falls_sub x hx)]
    have := falls_len (T := tabAt (tableF n told)) (o := o) (G := 0) (rises hn hT o 0 (chk_all n hn o ho))
    rw [Int.zero_add, ord_sum n hn o ho] at this
    rw [this]
    by_cases hw : wholeB n told
    · rw [if_pos hw, if_pos (show tabAt (tableF n told) 0 = false ∧ tabAt (tableF n told) (2 ^ n - 1) = true from hw)]; rfl
    · rw [if_neg hw, if_neg (show ¬ (tabAt (tableF n told) 0 = false ∧ tabAt (tableF n told) (2 ^ n - 1) = true) from hw)]; rfl
  rw [List.map_congr_left each]
  generalize ordersF n = L
  split
  · induction L with
    | nil => rfl
    | cons a L ih => rw [List.map_cons, List.sum_cons, ih, List.length_cons]; omega
  · induction L with
    | nil => rfl
    | cons a L ih => rw [List.map_cons, List.sum_cons, ih]; rfl
/-! ### fractions -/
theorem red_mul {n d k : Int} (hn : 0 ≤ n) (hd : 0 < d) (hk : 0 < k) : redF (n * k) (d * k) = redF n d := by
  unfold redF
  have e : ((Nat.gcd (n * k).natAbs (d * k).natAbs : Nat) : Int) = ((Nat.gcd n.natAbs d.natAbs : Nat) : Int) * k := by
    rw [Int.natAbs_mul, Int.natAbs_mul, Nat.gcd_mul_right, Int.natCast_mul, Int.natAbs_of_nonneg (by omega : 0 ≤ k)]
  rw [e, Int.mul_ediv_mul_of_pos_left _ _ hk, Int.mul_ediv_mul_of_pos_left _ _ hk]
theorem red_cross {n d : Int} (hn : 0 ≤ n) (hd : 0 < d) : (redF n d).1 * d = n * (redF n d).2 := by
  have hg := gcd_pos (n := n) hd
  have h1 : ((Nat.gcd n.natAbs d.natAbs : Nat) : Int) ∣ n := by
    have := Int.natCast_dvd_natCast.mpr (Nat.gcd_dvd_left n.natAbs d.natAbs)
    rwa [Int.natAbs_of_nonneg hn] at this
  have h2 : ((Nat.gcd n.natAbs d.natAbs : Nat) : Int) ∣ d := by
    have := Int.natCast_dvd_natCast.mpr (Nat.gcd_dvd_right n.natAbs d.natAbs)
    rwa [Int.natAbs_of_nonneg (by omega : 0 ≤ d)] at this
  unfold redF
  generalize ((Nat.gcd n.natAbs d.natAbs : Nat) : Int) = g at *
  obtain ⟨a, rfl⟩ := h1
  obtain ⟨b, rfl⟩ := h2
  show (g * a / g) * (g * b) = (g * a) * (g * b / g)
  rw [Int.mul_ediv_cancel_left _ (by omega), Int.mul_ediv_cancel_left _ (by omega)]
  rw [← Int.mul_assoc, Int.mul_comm a g]
theorem red_eq {n d n' d' : Int} (hn : 0 ≤ n) (hd : 0 < d) (hn' : 0 ≤ n') (hd' : 0 < d') (h : n * d' = n' * d) : redF n d = redF n' d' := by
  rw [← red_mul hn hd hd', ← red_mul hn' hd' hd, h, Int.mul_comm d d']
theorem red_bd {n d : Int} (hn : 0 ≤ n) (hd : 0 < d) : 0 ≤ (redF n d).1 ∧ 0 < (redF n d).2 := by
  have hg := gcd_pos (n := n) hd
  refine ⟨Int.ediv_nonneg hn (by omega), ?_⟩
  have h2 : ((Nat.gcd n.natAbs d.natAbs : Nat) : Int) ∣ d := by
    have := Int.natCast_dvd_natCast.mpr (Nat.gcd_dvd_right n.natAbs d.natAbs)
    rwa [Int.natAbs_of_nonneg (by omega : 0 ≤ d)] at this
  unfold redF
  show 0 < d / _
  generalize ((Nat.gcd n.natAbs d.natAbs : Nat) : Int) = g at *
  obtain ⟨b, rfl⟩ := h2
  rw [Int.mul_ediv_cancel_left _ (by omega)]
  rcases Int.lt_or_le 0 b with z | z
  · exact z
  · have := Int.mul_nonpos_of_nonneg_of_nonpos (a := g) (by omega) z; omega
theorem step_red {A B L : Int} (hA : 0 ≤ A) (hB : 0 ≤ B) (hL : 0 < L) : stepF (redF A L) (redF B L) = redF (A + B) L := by
  have a1 := red_cross hA hL
  have b1 := red_cross hB hL
  have a2 := red_bd hA hL
  have b2 := red_bd hB hL
  unfold stepF
  generalize redF A L = x at *
  generalize redF B L = y at *
  refine red_eq (Int.add_nonneg (Int.mul_nonneg a2.1 (by omega)) (Int.mul_nonneg b2.1 (by omega))) (Int.mul_pos a2.2 b2.2) (by omega) hL ?_
  have e1 : x.1 * y.2 * L = A * x.2 * y.2 := by rw [Int.mul_assoc, Int.mul_comm y.2 L, ← Int.mul_assoc, a1]
  have e2 : y.1 * x.2 * L = B * y.2 * x.2 := by rw [Int.mul_assoc, Int.mul_comm x.2 L, ← Int.mul_assoc, b1]
  rw [Int.add_mul, e1, e2, Int.add_mul, Int.mul_assoc, Int.mul_assoc, Int.mul_comm y.2 x.2]
theorem fold_red {L : Int} (hL : 0 < L) : ∀ (xs : List Int) (A : Int), 0 ≤ A → (∀ x ∈ xs, 0 ≤ x) → (xs.map fun x => redF x L).foldl stepF (redF A L) = redF (A + xs.sum) L
  | [], A, _, _ => by rw [List.sum_nil, Int.add_zero]; rfl
  | x :: xs, A, hA, h => by
    have hx := h x List.mem_cons_self
    rw [List.map_cons, List.foldl_cons, step_red hA hx hL, fold_red hL xs (A + x) (by omega) (fun y hy => h y (List.mem_cons_of_mem _ hy)), List.sum_cons, Int.add_assoc]
theorem red_zero {L : Int} (hL : 0 < L) : redF 0 L = (0, 1) := by
  have := red_mul (n := 0) (d := 1) (by decide) (by decide) hL
  rw [Int.zero_mul, Int.one_mul] at this
  rw [this]; rfl
theorem red_one {L : Int} (hL : 0 < L) : redF L L = (1, 1) := by
  have := red_mul (n := 1) (d := 1) (by decide) (by decide) hL
  rw [Int.one_mul] at this
  rw [this]; rfl
/-- the shares add up to the whole, or to nothing -/
theorem main3 {n : Nat} (hn : n ≤ 6) {told : List (Tup Int)} (hT : TOk n told) : addF ((List.range n).map fun p => redF (fallsF n told p) ((ordersF n).length : Int)) = if wholeB n told then (1, 1) else (0, 1) := by
  have hL : (0 : Int) < ((ordersF n).length : Int) := by have := (ordN n hn).2; omega
  have e := fold_red hL ((List.range n).map fun p => fallsF n told p) 0 (Int.le_refl _) (fun x hx => by
    obtain ⟨p, _, rfl⟩ := List.mem_map.mp hx
    unfold fallsF cntI
    omega)
  rw [List.map_map, Int.zero_add, main2 hn hT, red_zero hL] at e
  unfold addF
  refine Eq.trans e ?_
  split
  · exact red_one hL
  · exact red_zero hL
theorem mask_zero : ∀ n, n ≤ 6 → ∀ t ∈ allS (List.replicate n 1), decide (Builtin.bitAnd (maskF n t) 0 = maskF n t) = !decide ((1 : Int) ∈ t) := by decide +kernel
theorem mask_full : ∀ n, n ≤ 6 → ∀ t ∈ allS (List.replicate n 1), Builtin.bitAnd (maskF n t) (2 ^ n - 1) = maskF n t := by decide +kernel
theorem whole_iff {n : Nat} (hn : n ≤ 6) {told : List (Tup Int)} (hT : TOk n told) : wholeB n told ↔ (∃ t ∈ told, (1 : Int) ∈ t.l) ∧ ∀ t ∈ told, (1 : Int) ∈ t.l := by
  have e1 := @natpow n
  have e4 : 0 < 2 ^ n := Nat.pow_pos (by decide)
  have hm : ∀ t ∈ told, t.l ∈ allS (List.replicate n 1) := fun t ht => mem_allS n t.l (hT.2 t ht).1 (hT.2 t ht).2
  unfold wholeB
  rw [tab_at (by omega) (by omega), tab_at (by omega) (by omega), List.any_eq_false, List.any_eq_true]
  constructor
  · rintro ⟨h1, t, ht, _⟩
    have all : ∀ t ∈ told, (1 : Int) ∈ t.l := fun t ht => by
      have := h1 t ht
      rw [mask_zero n hn t.l (hm t ht)] at this
      simpa using this
    exact ⟨⟨t, ht, all t ht⟩, all⟩
  · rintro ⟨⟨t, ht, _⟩, all⟩
    refine ⟨fun t ht => ?_, t, ht, ?_⟩
    · rw [mask_zero n hn t.l (hm t ht)]
      simpa using all t ht
    · rw [decide_eq_true_iff]; exact mask_full n hn t.l (hm t ht)
end K34
namespace K34
open PySem PySem.Spec PyProof.Rows L2 Lw RZ
variable {P : Program} {w : World} {K : PySem.W.Frag} {mg : Str → Option Value} {base : Heap}
def a_law (K : PySem.W.Frag) : List (Slot K) → Os → (Bool → Os → Prop) → Prop := fun xs os P => ∃ script : List Int, xs = [sv script] ∧ os = [] ∧ P true []
theorem sc_law : FnScope ["script", "bag", "count", "told", "expected", "actual", "party", "whole", "levels"] ["script"] (defScope (topS 26)) := ⟨rfl, rfl, rfl, by decide +kernel, rfl, by decide +kernel, by decide +kernel⟩
theorem lshare_ok {n : Nat} (hn : n ≤ 6) {told : List (Tup Int)} (hT : TOk n told) : OkPs ((List.range n).map fun p => redF (fallsF n told p) ((ordersF n).length : Int)) := by
  refine ⟨by rw [List.length_map, List.length_range]; omega, fun q hq => ?_⟩
  obtain ⟨p, hp, rfl⟩ := List.mem_map.mp hq
  have hL := ordN n hn
  have h0 : ∀ p, 0 ≤ fallsF n told p := fun p => by unfold fallsF cntI; omega
  have hs := main2 hn hT
  have h1 : fallsF n told p ≤ ((List.range n).map fun p => fallsF n told p).sum := by
    have key : ∀ L : List Nat, p ∈ L → fallsF n told p ≤ (L.map fun p => fallsF n told p).sum := by
      intro L
      induction L with
      | nil => intro h; cases h
      | cons a L ih =>
        intro h
        have nn : ∀ M : List Nat, 0 ≤ (M.map fun p => fallsF n told p).sum := by
          intro M
          induction M with
          | nil => exact Int.le_refl _
          | cons b M ih => rw [List.map_cons, List.sum_cons]; have := h0 b; omega
        rw [List.map_cons, List.sum_cons]
        rcases List.mem_cons.mp h with rfl | h
        · have := nn L; omega
        · have := ih h; have := h0 a; omega
    exact key _ hp
  have h2 : ((List.range n).map fun p => fallsF n told p).sum ≤ 720 := by
    rw [hs]; split <;> omega
  exact red_ok ⟨h0 p, by omega, by omega, by omega⟩
theorem ok_law (E : FX K mg) {f : Addr} {fd : FuncData} (F : FunD K "law" "law" (defArgs (topS 26)) (defBody (topS 26)) (defScope (topS 26)) [] [] f fd) : FnOk P w K mg base CX0 5 f fd ["script"] (SpW K (a_law K)) := by
  refine okWD F sc_law (fun xs os P' h => ?_) (fun cdv Ar outer s0 H0 E0 hr xs os P' h => ?_)
  · obtain ⟨_, rfl, _⟩ := h; rfl
  · obtain ⟨script, rfl, rfl, hP⟩ := h
    refine ⟨_, (pss_cons (ps_set (i := 1) sc_law.nd rfl (.inl rfl) (pe_c (ok_law_bag E) (hr.mono (by decide)) rfl (pa_cons (pv 0) pa_nil)))
    (pss_cons (ps_set (i := 2) sc_law.nd rfl (.inl rfl) (pe_c (ok_law_take E) (hr.mono (by decide)) rfl (pa_cons (pv 1) (pa_cons pe_int pa_nil))))
    (pss_cons (ps_set (i := 3) sc_law.nd rfl (.inl rfl) (pe_c (ok_law_settings E) (hr.mono (by decide)) rfl (pa_cons (pv 1) (pa_cons (pv 2) pa_nil))))
    (pss_cons (ps_set (i := 4) sc_law.nd rfl (.inl rfl) (pe_c (ok_law_shares E) (hr.mono (by decide)) rfl (pa_cons (pv 2) (pa_cons (pv 3) pa_nil))))
    (pss_cons (ps_set (i := 5) sc_law.nd rfl (.inl rfl) (pe_c (ok_shares_of E) (hr.mono (by decide)) rfl (pa_cons (pv 2) (pa_cons (pe_callTy (tuple_ofK K) (by rfl) (E.free 25) (by decide +kernel) (pa_cons (pv 3) pa_nil)) pa_nil))))
    (pss_cons (ps_if (PW.pt (pw_or (pt_not (pt_val (pe_callB (isiK K) (by rfl) (E.free 32) (by decide +kernel) (pa_cons (pv 5) (pa_cons (pe_bltn (v := .ty "tuple") (u := .type "tuple") (by rfl) (E.free 25) (by decide +kernel) rfl) pa_nil))))) (pw_or1 (pt_cmpR op_ne (pe_callB (len_seqK K) (by rfl) (E.free 29) (by decide +kernel) (pa_cons (pv 5) pa_nil)) (pv 2) (nomark _))))) (pss_one (ps_ret pe_bl)) pss_nil)
    (pss_cons (ps_for PassesOwn.never rfl (pi_range1 rfl (E.free 27) (pa_cons (pv 2) pa_nil)) (pg_name (i := 6) sc_law.nd rfl (.inl rfl))
      (pss_one (ps_if (pt_not (pt_val (pe_c (ok_law_is_pair E) (hr.mono (by decide)) rfl (pa_cons (pe_ix (ix_tupK K) (pv 5) (pv 6) (fun _ _ => rfl)) (pa_cons (pe_ix (ix_listK K) (pv 4) (pv 6) (fun _ _ => rfl)) pa_nil))))) (pss_one (ps_ret pe_bl)) pss_nil)))
    (pss_cons (ps_set (i := 7) sc_law.nd rfl (.inl rfl) (pe_tup (pa_cons pe_int (pa_cons pe_int pa_nil))))
    (pss_cons (ps_for PassesOwn.never rfl (pi_listK K (pv 3)) (pg_name (i := 8) sc_law.nd rfl (.inl rfl))
      (pss_one (ps_if (pt_cmpR (in_seqK K) pe_int (pv 8) (by rfl)) (pss_one (ps_set (i := 7) sc_law.nd rfl (.inl rfl) (pe_tup (pa_cons pe_int (pa_cons pe_int pa_nil))))) pss_nil)))
    (pss_cons (ps_for PassesOwn.never rfl (pi_listK K (pv 3)) (pg_name (i := 8) sc_law.nd rfl (.inl rfl))
      (pss_one (ps_if (pt_cmpR (ni_seqK K) pe_int (pv 8) (by rfl)) (pss_one (ps_set (i := 7) sc_law.nd rfl (.inl rfl) (pe_tup (pa_cons pe_int (pa_cons pe_int pa_nil))))) pss_nil)))
    (pss_cons (ps_if (pt_not (pt_val (pe_c (ok_law_is_pair E) (hr.mono (by decide)) rfl (pa_cons (pe_c (ok_added E) (hr.mono (by decide)) rfl (pa_cons (pe_callTy (list_ofK K) (by rfl) (E.free 28) (by decide +kernel) (pa_cons (pv 4) pa_nil)) pa_nil)) (pa_cons (pv 7) pa_nil))))) (pss_one (ps_ret pe_bl)) pss_nil)
    (pss_cons (ps_if (pt_not (pt_val (pe_c (ok_law_added_holds E) (hr.mono (by decide)) rfl (pa_cons (pe_c (ok_law_fractions E) (hr.mono (by decide)) rfl (pa_cons (pv 1) pa_nil)) pa_nil)))) (pss_one (ps_ret pe_bl)) pss_nil)
    (pss_one (ps_ret (pe_c (ok_law_reduced_holds E) (hr.mono (by decide)) rfl (pa_cons (pv 1) pa_nil)))))))))))))))), fun g σ Q s fin => ?_⟩
    have fin2 : ∀ (c : Bool) v g' h' σ' env' os2, c = true → S0 ⟨[], g, H0⟩ g' h' σ' (env' : Lw.Env K) os2 → v = V.bl c → Q v h' := fun c v g' h' σ' env' os2 e s r =>
      fin v true g' h' σ' env' [] os2 hP (fun _ z => nomatch z) s (by simp) (by rw [← e]; exact r)
    -- bag = _law_bag(script)
    refine st_setCW [] [] s (List.Perm.refl _) (ea_cons (ev_var rfl) ea_nil) (P := fun z osz => ∃ l, z = V.ref l ∧ osz = [(l, Bag K)]) ⟨script, rfl, rfl, fun l => ⟨l, rfl, rfl⟩⟩ (fun z osz hz v g h s => ?_)
    obtain ⟨l, rfl, rfl⟩ := hz
    try dsimp only
    -- count = _law_take(bag, 7)
    refine st_setW s (ew_takeC (m := 0) rfl rfl ev_int ⟨by decide, by decide⟩) (fun cnt hcnt v g h s => ?_)
    obtain ⟨n, rfl⟩ := Int.eq_ofNat_of_zero_le hcnt.1
    have hn : n ≤ 6 := by omega
    clear hcnt
    -- told = _law_settings(bag, count)
    refine st_setCW [(l, Bag K)] [] s (List.Perm.refl _) (ea_cons (ev_var rfl) (ea_cons (ev_var rfl) ea_nil)) (P := fun z osz => TOk n z ∧ osz = [(l, Bag K)]) ⟨l, n, rfl, rfl, hn, fun told h => ⟨h, rfl⟩⟩ (fun told osz hz v g h s => ?_)
    obtain ⟨hT, rfl⟩ := hz
    -- expected = _law_shares(count, told)
    refine st_set s (ev_call (ea_cons (ev_var rfl) (ea_cons (ev_var rfl) ea_nil)) ⟨_, _, rfl, ⟨hn, hT⟩, rfl⟩) (fun v g h s => ?_)
    -- actual = shares_of(count, tuple(told))
    refine st_set s (ev_call (ea_cons (ev_var rfl) (ea_cons (ev_tupleL (ev_var rfl)) ea_nil)) ⟨_, _, rfl, ⟨hn, hT.1, fun t ht => (hT.2 t ht).1⟩, rfl⟩) (fun v g h s => ?_)
    have he : (Tup.mk ((List.range n).map fun p => redF (ordP n told p) ((Builtin.Math.factorialNat n : Nat) : Int))) = Tup.mk ((List.range n).map fun p => redF (fallsF n told p) ((ordersF n).length : Int)) := by
      congr 1
      apply List.map_congr_left
      intro p hp
      rw [main1 hn hT (List.mem_range.mp hp), lenO n hn]
    have hok := lshare_ok hn hT
    have hsum := main3 hn hT
    rw [show (Tup.mk told).l = told from rfl, he] at s
    generalize hX : ((List.range n).map fun p => redF (fallsF n told p) ((ordersF n).length : Int)) = X at s hok hsum
    have hXl : X.length = n := by rw [← hX, List.length_map, List.length_range]
    clear hX he
    try dsimp only
    -- if not isinstance(actual, tuple) or len(actual) != count:
    refine st_if s (et_or (et_not (et_B (ev_isi (c := true) (x := Tup.mk X) (ev_var rfl)))) fun _ => (et_test (ev_neI (ev_lenT (ev_var rfl)) (ev_var rfl)))) (fun hc g h s => ?_) (fun hc g h s => ?_)
    · simp [hXl] at hc
    · dsimp only [tNext]
      -- for party in range(count):
      refine st_for_range s (ev_var rfl) (by omega) (by omega) (fun k e o => ∃ (s6 : Slot K), e = [sv script, sv (V.ref l), sv (n : Int), sv told, sv X, sv (Tup.mk X), s6, .unk, .unk] ∧ o = [(l, Bag K)]) ⟨_, rfl, rfl⟩ (fun k hk c hls e o g h σ N hI back s hN => ?_) (fun e o g h σ hI s => ?_)
      · obtain ⟨s6, rfl, rfl⟩ := hI
        -- if not _law_is_pair(actual[party], expected[party]):
        refine st_if s (et_not (et_B (ev_call (ea_cons (ev_ixTD (0, 0) (ev_var rfl) (ev_var rfl) (by omega) (by show ((k : Nat) : Int) < X.length; omega)) (ea_cons (ev_ixLD (0, 0) (ev_var rfl) (ev_var rfl) (by omega) (by omega)) ea_nil)) ⟨_, _, rfl, rfl⟩))) (fun hc g h s => ?_) (fun hc g h s => ?_)
        · simp at hc
        · exact hN _ _ _ _ _ ⟨_, rfl, rfl⟩ s
      · obtain ⟨s6, rfl, rfl⟩ := hI
        dsimp only
        -- whole = (0, 1)
        refine st_set s (ev_pair ev_int ev_int) (fun v g h s => ?_)
        -- for levels in told:
        refine st_for_list tgt_name s (ev_var rfl) (fun k e o => ∃ (s8 : Slot K), e = [sv script, sv (V.ref l), sv (n : Int), sv told, sv X, sv (Tup.mk X), s6, sv (if ∃ t ∈ told.take k, (1 : Int) ∈ t.l then ((1, 1) : Int × Int) else (0, 1)), s8] ∧ o = [(l, Bag K)]) ⟨_, rfl, rfl⟩ (fun k x hx c hls e o g h σ N hI back s hN => ?_) (fun e o g h σ hI s => ?_)
        · obtain ⟨s8, rfl, rfl⟩ := hI
          have step : (∃ t ∈ told.take (k + 1), (1 : Int) ∈ t.l) ↔ ((∃ t ∈ told.take k, (1 : Int) ∈ t.l) ∨ (1 : Int) ∈ x.l) := by
            rw [List.take_add_one, hx]
            constructor
            · rintro ⟨t, ht, h⟩
              rcases List.mem_append.mp ht with ht | ht
              · exact .inl ⟨t, ht, h⟩
              · simp at ht; subst ht; exact .inr h
            · rintro (⟨t, ht, h⟩ | h)
              · exact ⟨t, List.mem_append_left _ ht, h⟩
              · exact ⟨x, List.mem_append_right _ (by simp), h⟩
          -- if 1 in levels:
          refine st_if s (et_test (ev_inTI ev_int (ev_var rfl))) (fun hc g h s => ?_) (fun hc g h s => ?_)
          · -- whole = (1, 1)
            have hc' : (1 : Int) ∈ x.l := by simpa using hc
            refine st_set s (ev_pair ev_int ev_int) (fun v g h s => ?_)
            exact hN _ _ _ _ _ ⟨_, by rw [if_pos (step.mpr (.inr hc'))]; rfl, rfl⟩ s
          · have hc' : ¬ (1 : Int) ∈ x.l := by simpa using hc
            have e : (∃ t ∈ told.take (k + 1), (1 : Int) ∈ t.l) ↔ (∃ t ∈ told.take k, (1 : Int) ∈ t.l) := step.trans (or_iff_left hc')
            refine hN _ _ _ _ _ ⟨sv x, ?_, rfl⟩ s
            by_cases q : ∃ t ∈ told.take k, (1 : Int) ∈ t.l
            · rw [if_pos q, if_pos (e.mpr q)]; rfl
            · rw [if_neg q, if_neg (fun z => q (e.mp z))]; rfl
        · obtain ⟨s8, rfl, rfl⟩ := hI
          dsimp only
          rw [List.take_length] at s
          -- for levels in told:
          refine st_for_list tgt_name s (ev_var rfl) (fun k e o => ∃ (s8 : Slot K), e = [sv script, sv (V.ref l), sv (n : Int), sv told, sv X, sv (Tup.mk X), s6, sv (if (∃ t ∈ told, (1 : Int) ∈ t.l) ∧ ∀ t ∈ told.take k, (1 : Int) ∈ t.l then ((1, 1) : Int × Int) else (0, 1)), s8] ∧ o = [(l, Bag K)]) ⟨s8, ?_, rfl⟩ (fun k x hx c hls e o g h σ N hI back s hN => ?_) (fun e o g h σ hI s => ?_)
          · by_cases q : ∃ t ∈ told, (1 : Int) ∈ t.l
            · rw [if_pos q, if_pos ⟨q, fun _ z => nomatch z⟩]
            · rw [if_neg q, if_neg (fun z => q z.1)]
          · obtain ⟨s8, rfl, rfl⟩ := hI
            have step : (∀ t ∈ told.take (k + 1), (1 : Int) ∈ t.l) ↔ ((∀ t ∈ told.take k, (1 : Int) ∈ t.l) ∧ (1 : Int) ∈ x.l) := by
              rw [List.take_add_one, hx]
              constructor
              · intro h
                exact ⟨fun t ht => h t (List.mem_append_left _ ht), h x (List.mem_append_right _ (by simp))⟩
              · rintro ⟨h1, h2⟩ t ht
                rcases List.mem_append.mp ht with ht | ht
                · exact h1 t ht
                · simp at ht; subst ht; exact h2
            -- if 1 not in levels:
            refine st_if s (et_test (ev_niTI ev_int (ev_var rfl))) (fun hc g h s => ?_) (fun hc g h s => ?_)
            · -- whole = (0, 1)
              have hc' : ¬ (1 : Int) ∈ x.l := by simpa using hc
              refine st_set s (ev_pair ev_int ev_int) (fun v g h s => ?_)
              exact hN _ _ _ _ _ ⟨_, by rw [if_neg (fun z : (∃ t ∈ told, (1 : Int) ∈ t.l) ∧ ∀ t ∈ told.take (k + 1), (1 : Int) ∈ t.l => hc' (step.mp z.2).2)]; rfl, rfl⟩ s
            · have hc' : (1 : Int) ∈ x.l := by simpa using hc
              refine hN _ _ _ _ _ ⟨sv x, ?_, rfl⟩ s
              by_cases q : (∃ t ∈ told, (1 : Int) ∈ t.l) ∧ ∀ t ∈ told.take k, (1 : Int) ∈ t.l
              · rw [if_pos q, if_pos ⟨q.1, step.mpr ⟨q.2, hc'⟩⟩]; rfl
              · rw [if_neg q, if_neg (fun z => q ⟨z.1, (step.mp z.2).1⟩)]; rfl
          · obtain ⟨s8, rfl, rfl⟩ := hI
            dsimp only
            rw [List.take_length] at s
            have hw : addF X = if (∃ t ∈ told, (1 : Int) ∈ t.l) ∧ ∀ t ∈ told, (1 : Int) ∈ t.l then ((1, 1) : Int × Int) else (0, 1) := by
              rw [hsum]
              by_cases q : wholeB n told
              · rw [if_pos q, if_pos ((whole_iff hn hT).mp q)]
              · rw [if_neg q, if_neg (fun z => q ((whole_iff hn hT).mpr z))]
            rw [← hw] at s
            -- if not _law_is_pair(added(list(expected)), whole):
            refine st_if s (et_not (et_B (ev_call (ea_cons (ev_call (ea_cons (ev_listL (ev_var rfl)) ea_nil) ⟨_, rfl, hok, rfl⟩) (ea_cons (ev_var rfl) ea_nil)) ⟨_, _, rfl, rfl⟩))) (fun hc g h s => ?_) (fun hc g h s => ?_)
            · simp at hc
            · dsimp only [tNext]
              -- if not _law_added_holds(_law_fractions(bag)):
              refine st_ifW (P := fun c => c = false) s ?_ (fun hc g h s => ?_) (fun hc g h s => ?_)
              · exact .mk fun {b g h σ os2 Q} s q => cw_call [(l, Bag K)] os2 s (List.Perm.refl _) (ea_cons (ev_var rfl) ea_nil) (P := fun z osz => OkPs z ∧ osz = [(l, Bag K)]) ⟨l, rfl, rfl, fun ps h => ⟨h, rfl⟩⟩ fun v ps osz g1 h1 hz s1 e1 r1 => by
                  obtain ⟨hps, rfl⟩ := hz
                  refine ⟨g1, [sv ps], fun c => c = true, ⟨ps, rfl, hps, rfl⟩, s1.gh, .cons ⟨v, rfl, r1⟩ .nil, fun v z g2 h2 hz l2 r2 => ?_⟩
                  subst hz
                  exact ⟨true, r2, q false g2 h2 rfl (s1.le l2) (e1.trans l2.gg)⟩
              · cases hc
              · dsimp only [tNext]
                -- return _law_reduced_holds(bag)
                refine cw_call [(l, Bag K)] [] s (List.Perm.refl _) (ea_cons (ev_var rfl) ea_nil) (P := fun z osz => z = true) ⟨l, rfl, rfl, rfl⟩ fun v z osz g1 h1 hz s1 e1 r1 => ?_
                exact fin2 z v g1 h1 _ _ _ hz s1 r1
end K34
namespace K34
open PySem PySem.Spec PyProof.Rows L2 Lw
abbrev R : PySem.W.OpenRow := PySem.W.OpenLaw.row PySem.Challenge.rw_planyard_k34_shares_by_orders
abbrev hk : PySem.W.Hook := He.hookX 4 fa fn [] [] ex
def ob (s : PySem.W.SharedT) : He.AlX := He.obsX 4 fa fn [] [] ex (HandSHeadRun.getT s)
theorem ob_eq (s : PySem.W.SharedT) : ob s = hk.obs s.abs := He.obsX_eq (HandSHeadRun.getT_eq s)
theorem run (w : World) : HandSHeadRun.RunEqI R (PySem.W.view R.prog [0, 26]) hk ob 2000 names w := by
  unfold HandSHeadRun.RunEqI
  kernel_rfl
theorem facts {P : Program} {w : World} {K : PySem.W.Frag} {h h' : Heap} {mg : Str → Option Value} {f : Addr} (X : K.In h) (G : h.Ns mainGlobals mg) (hfa : mg ("law" : Str) = some (.ref f)) (c : He.SaysX fa fn [] [] ex w h' K) :
    ∃ fd : FuncData, (∀ (s : Shared) (v : Value), BindsTo s fd ⟨[v], []⟩ [("script", v)]) ∧ ∀ base : Heap, K.In base → base.Ns mainGlobals mg → FnOk P w K mg base CX0 5 f fd ["script"] (SpW K (a_law K)) := by
  have E : FX K mg := Fx.of X G c
  obtain ⟨fd, F⟩ := E.d.def_ 22 (d := dd "law" 26) rfl
  have e := hfa.symm.trans (E.gref 22 (x := "law") rfl)
  cases e
  have b := FunD.bindsA (ps := ["script"]) F fun _ _ _ _ _ _ us hl => match us, hl with | [_], _ => rfl
  exact ⟨fd, fun s v => b s [v] rfl, fun base _ _ => ok_law E F⟩
theorem law_sp {K : PySem.W.Frag} {H : Hp} {a : Addr} {ns : List Int} (h : SqL K H a (ns.map V.int)) {E : XK} : SpW K (a_law K) [.ref a] H (fun v _ => v = .bl true) E :=
  ⟨H, [sv ns], [], fun c os => c = true ∧ os = [], ⟨ns, rfl, rfl, rfl, rfl⟩, fun _ _ q => q, ⟨(fun _ z => nomatch z), by simp⟩, .cons ⟨_, rfl, a, _, rfl, h, paired_of_eq⟩ .nil, fun v z os' g' H' hz _ _ _ r => by
    obtain ⟨rfl, rfl⟩ := hz
    exact r⟩
end K34
open PySem PySem.W PySem.Calls PyProof.Rows
theorem PySem.Challenge.cw_planyard_k34_shares_by_orders_holds : PySem.Challenge.rw_planyard_k34_shares_by_orders.Holds := by
  w_on; o_law
  refine HandSHeadRun.head_imp (r := OpenLaw.row PySem.Challenge.rw_planyard_k34_shares_by_orders) (q := view (OpenLaw.row PySem.Challenge.rw_planyard_k34_shares_by_orders).prog [0, 26]) (H := K34.hk) (ob := K34.ob) (M := 2000) (loose := K34.names) (d := HandSHeadRun.topDef (OpenLaw.row PySem.Challenge.rw_planyard_k34_shares_by_orders).prog 26) (kwd := []) K34.ob_eq
    K34.run (by kernel_rfl) (by kernel_rfl) (by kernel_rfl) (by rfl) (by first | assumption | decide +kernel) (by decide +kernel) ⟨rfl, rfl, rfl, rfl, rfl, by decide +kernel⟩ ?hw ?hc
  case hw => w_witness2
  case hc =>
    refine L2.walk_ofE (l := PySem.Challenge.rw_planyard_k34_shares_by_orders) (n := 63) (k := 5) (x := "script") (CX := L2.CX0) rfl (by decide) (by kernel_rfl) ⟨rfl, by decide, by decide⟩ ?F (fun _ _ _ _ z => z)
    intro w mg fa h Y G hmg0
    obtain ⟨K, KX, c⟩ := Y
    have hmg : mg ("law" : PySem.Str) = some (.ref fa) := by
      have e : (HandSHeadRun.topDef (OpenLaw.row PySem.Challenge.rw_planyard_k34_shares_by_orders).prog 26).name = ("law" : PySem.Str) := by kernel_rfl
      rw [← e]
      exact hmg0
    obtain ⟨fd, hb, hF⟩ := K34.facts (P := (PySem.Challenge.rw_planyard_k34_shares_by_orders).prog) (w := w) KX G hmg c
    exact ⟨K, fd, Lw.SpW K (K34.a_law K), KX, hb, fun H a ns hl _ hS => K34.law_sp hS, hF⟩
