import PyProof.Rows.All
import Wide.All
import OpenK.AllK
import Wide.FinOn
import HandS.ForMost
import HandS.TupAny
import HandS.TupMul
import HandS.Gcd
import HandS.IsInst
import HandS.TupLe
import HandS.WordsExc
import HandS.Defaults
import HandS.HeadEnd
import HandS.HeadHook1
import HandS.HeadHook2
import HandS.HeadHook3
import HandS.HeadHook4
import KE.KExcSuper
import HandS.Nested
import HandS.ExcInit
import HandS.ExcField
import HandS.OwnEq
import HandS.ClsMeth
import HandS.MakeKw
import HandS.Codes
import HandS.ExcCtx
import KE.KExcIs
import HandS.SortInts
import PySem.Challenge.RW_planyard_k22_rule_orders
import KE.KStateDown
import HandS.Ends
import HandS.Head0
import HandS.Head1
import HandS.Head2
import HandS.Head3
import HandS.HeadWalk
import HandS.HotCalls
import HandS.ExcInitHot
import KE.KMathG
import HandS.Zip
import HandS.Wide
import KE.KTupSum
import HandS.Dict
import HandS.Iter
import HandS.Rev
import HandS.TupSets
import HandS.Deep
import HandS.RevTup
import HandS.SetFor
import HandS.Strs
import HandS.DictComp
import HandS.ListItems
import KE.SortData
import HandS.Walk
import PyProof.EnumMake
import HandS.ReplaceLit
import HandS.Conv
import HandS.Style
import HandS.Star
import HandS.MethStar
import HandS.GenList
import HandS.Text
import PyProof.StrLawsOcc
import KE.SortKeyHeap
import HandS.New
import KE.DataCmp

set_option Elab.async false
set_option linter.all false
set_option maxRecDepth 100000
set_option maxHeartbeats 0

/-! The layer of typed slots: data that never change are told by a kept heap g, objects that still change are owned. -/
namespace Lw
open PySem PySem.Spec PyProof.Rows L2

/-- values of a Lean type, as the kept heap bears them -/
class Py (K : PySem.W.Frag) (α : Type) where
  R : Hp → V → α → Prop
  mono : ∀ {g g' : Hp} {v : V} {x : α}, Same g g' → R g v x → R g' v x
/-- a tuple whose items are alike -/
structure Tup (α : Type) where
  l : List α

theorem paired_mono {α β : Type} {F G : α → β → Prop} : ∀ {xs : List α} {ys : List β}, (∀ a b, F a b → G a b) → Paired F xs ys → Paired G xs ys
  | _, _, _, .nil => .nil
  | _, _, h, .cons r t => .cons (h _ _ r) (paired_mono h t)
theorem paired_get {α β : Type} {F : α → β → Prop} : ∀ {xs : List α} {ys : List β} {i : Nat} {y : β}, Paired F xs ys → ys[i]? = some y → ∃ x, xs[i]? = some x ∧ F x y
  | _, _, _, _, .nil, e => by simp at e
  | _, _, 0, y, .cons r _, e => by simp at e; subst e; exact ⟨_, rfl, r⟩
  | _, _, i + 1, y, .cons _ t, e => by
    obtain ⟨x, h1, h2⟩ := paired_get (i := i) (y := y) t (by simpa using e)
    exact ⟨x, by simpa using h1, h2⟩
theorem paired_getL {α β : Type} {F : α → β → Prop} : ∀ {xs : List α} {ys : List β} {i : Nat} {x : α}, Paired F xs ys → xs[i]? = some x → ∃ y, ys[i]? = some y ∧ F x y
  | _, _, _, _, .nil, e => by simp at e
  | _, _, 0, y, .cons r _, e => by simp at e; subst e; exact ⟨_, rfl, r⟩
  | _, _, i + 1, y, .cons _ t, e => by
    obtain ⟨x, h1, h2⟩ := paired_getL (i := i) (x := y) t (by simpa using e)
    exact ⟨x, by simpa using h1, h2⟩
theorem paired_append {α β : Type} {F : α → β → Prop} : ∀ {xs : List α} {ys : List β} {xs' : List α} {ys' : List β}, Paired F xs ys → Paired F xs' ys' → Paired F (xs ++ xs') (ys ++ ys')
  | _, _, _, _, .nil, s => s
  | _, _, _, _, .cons r t, s => .cons r (paired_append t s)
theorem paired_take {α β : Type} {F : α → β → Prop} : ∀ {xs : List α} {ys : List β} (n : Nat), Paired F xs ys → Paired F (xs.take n) (ys.take n)
  | _, _, 0, _ => .nil
  | _, _, _ + 1, .nil => .nil
  | _, _, n + 1, .cons r t => .cons r (paired_take n t)
theorem paired_drop {α β : Type} {F : α → β → Prop} : ∀ {xs : List α} {ys : List β} (n : Nat), Paired F xs ys → Paired F (xs.drop n) (ys.drop n)
  | _, _, 0, r => r
  | _, _, _ + 1, .nil => .nil
  | _, _, n + 1, .cons _ t => paired_drop n t
theorem paired_set {α β : Type} {F : α → β → Prop} {x : α} {y : β} (r : F x y) : ∀ {xs : List α} {ys : List β} (n : Nat), Paired F xs ys → Paired F (xs.set n x) (ys.set n y)
  | _, _, _, .nil => .nil
  | _, _, 0, .cons _ t => .cons r t
  | _, _, n + 1, .cons q t => .cons q (paired_set r n t)
theorem paired_rev {α β : Type} {F : α → β → Prop} {xs : List α} {ys : List β} (h : Paired F xs ys) : Paired F xs.reverse ys.reverse := by
  induction h with
  | nil => exact .nil
  | cons r _ ih => rw [List.reverse_cons, List.reverse_cons]; exact paired_append ih (.cons r .nil)
theorem paired_map {α β γ : Type} {F : α → β → Prop} {f : γ → α} : ∀ {ys : List γ} {zs : List β}, Paired (fun c b => F (f c) b) ys zs → Paired F (ys.map f) zs
  | _, _, .nil => .nil
  | _, _, .cons r t => .cons r (paired_map t)
theorem paired_eq {α β : Type} {f : β → α} : ∀ {xs : List α} {ys : List β}, Paired (fun a b => a = f b) xs ys → xs = ys.map f
  | _, _, .nil => rfl
  | _, _, .cons r t => by rw [r, paired_eq t]; rfl
theorem paired_of_eq {α β : Type} {f : β → α} : ∀ {ys : List β}, Paired (fun a b => a = f b) (ys.map f) ys
  | [] => .nil
  | _ :: _ => .cons rfl paired_of_eq

theorem same_seqT {K : PySem.W.Frag} {H H' : Hp} {a : Addr} {xs : List V} (e : Same H H') (h : SqT K H a xs) : SqT K H' a xs := by
  rcases h with (h | ⟨o, h⟩) | h
  · exact .inl (.inl (e _ _ h))
  · exact .inl (.inr ⟨o, e _ _ h⟩)
  · exact .inr h

theorem same_tup {K : PySem.W.Frag} {H H' : Hp} {a : Addr} {xs : List V} (e : Same H H') (h : H a = some (.tup xs)) : SqT K H' a xs := .inl (.inl (e _ _ h))
section
variable {K : PySem.W.Frag}
instance : Py K Int := ⟨fun _ v x => v = .int x, fun _ h => h⟩
instance : Py K Bool := ⟨fun _ v x => v = .bl x, fun _ h => h⟩
instance : Py K Str := ⟨fun _ v x => v = .str x, fun _ h => h⟩
instance : Py K Unit := ⟨fun _ v _ => v = .non, fun _ h => h⟩
instance : Py K V := ⟨fun _ v x => v = x, fun _ h => h⟩
instance instOpt {α : Type} [i : Py K α] : Py K (Option α) := ⟨fun g v x => match x with
  | none => v = .non
  | some y => v ≠ .non ∧ i.R g v y, fun {g g' v x} e h => by
    cases x with
    | none => exact h
    | some y => exact ⟨h.1, i.mono e h.2⟩⟩
instance instList {α : Type} [i : Py K α] : Py K (List α) := ⟨fun g v xs => ∃ a vs, v = .ref a ∧ SqL K g a vs ∧ Paired (i.R g) vs xs, fun {g g' v x} e h => by
  obtain ⟨a, vs, h1, h2, h3⟩ := h
  exact ⟨a, vs, h1, e.seq h2, paired_mono (fun _ _ q => i.mono e q) h3⟩⟩
instance instTup {α : Type} [i : Py K α] : Py K (Tup α) := ⟨fun g v xs => ∃ a vs, v = .ref a ∧ g a = some (.tup vs) ∧ Paired (i.R g) vs xs.l, fun {g g' v x} e h => by
  obtain ⟨a, vs, h1, h2, h3⟩ := h
  exact ⟨a, vs, h1, e _ _ h2, paired_mono (fun _ _ q => i.mono e q) h3⟩⟩
instance instPair {α β : Type} [i : Py K α] [j : Py K β] : Py K (α × β) := ⟨fun g v x => ∃ a u w, v = .ref a ∧ g a = some (.tup [u, w]) ∧ i.R g u x.1 ∧ j.R g w x.2, fun {g g' v x} e h => by
  obtain ⟨a, u, w, h1, h2, h3, h4⟩ := h
  exact ⟨a, u, w, h1, e _ _ h2, i.mono e h3, j.mono e h4⟩⟩

/-- a slot: nothing is known, or a value of a type -/
inductive Slot (K : PySem.W.Frag) : Type 1 where
  | unk
  | val (α : Type) (i : Py K α) (x : α)
def Slot.ok (g : Hp) : Slot K → Option V → Prop
  | .unk, _ => True
  | .val _ i x, o => ∃ v, o = some v ∧ i.R g v x
theorem Slot.ok_mono {g g' : Hp} {s : Slot K} {o : Option V} (e : Same g g') (h : s.ok g o) : s.ok g' o := by
  cases s with
  | unk => trivial
  | val α i x => obtain ⟨v, h1, h2⟩ := h; exact ⟨v, h1, i.mono e h2⟩
abbrev sv {α : Type} [i : Py K α] (x : α) : Slot K := .val α i x

/-- an owned object: what is known of it, by the kept heap -/
structure Own where
  P : Hp → HO → Prop
  mono : ∀ {g g' : Hp} {o : HO}, Same g g' → P g o → P g' o
/-- the caller's view at the entry: what may be changed, the kept heap, the heap -/
structure Bs where
  ls : List Addr
  g : Hp
  h : Hp
abbrev Env (K : PySem.W.Frag) := List (Slot K)
abbrev Os := List (Addr × Own)

structure S0 (b : Bs) (g h : Hp) (σ : L2.St) (env : Env K) (os : Os) : Prop where
  gh : Same g h
  len : σ.length = env.length
  sl : ∀ (i : Nat) (s : Slot K), env[i]? = some s → s.ok g (σ[i]?.join)
  own : ∀ p ∈ os, g p.1 = none ∧ ∃ o : HO, h p.1 = some o ∧ p.2.P g o
  nd : (os.map (·.1)).Nodup
  gg : Same b.g g
  fr : ∀ a o, a ∉ b.ls → b.h a = some o → h a = some o
  th : ∀ a, b.h a ≠ none → h a ≠ none
  new : ∀ a, b.g a = none → b.h a ≠ none → g a = none
  ol : ∀ p ∈ os, b.h p.1 = none ∨ p.1 ∈ b.ls

/-- a step that changes nothing that was there -/
structure Le (g h g' h' : Hp) : Prop where
  gg : Same g g'
  hh : Same h h'
  gh : Same g' h'
  new : ∀ a, g a = none → h a ≠ none → g' a = none

theorem some_ne_none {α : Type} {o : Option α} {x : α} (h : o = some x) : o ≠ none := by rw [h]; exact fun z => by cases z
theorem sameNe {H H' : Hp} (e : Same H H') {a : Addr} (h : H a ≠ none) : H' a ≠ none := by
  cases q : H a with
  | none => exact absurd q h
  | some o => rw [e a o q]; exact fun z => by cases z

variable {b : Bs} {g h g' h' : Hp} {σ : L2.St} {env : Env K} {os : Os}
theorem Le.refl (e : Same g h) : Le g h g h := ⟨Same.refl _, Same.refl _, e, fun _ n _ => n⟩
theorem Le.trans {g2 h2 : Hp} (a : Le g h g' h') (c : Le g' h' g2 h2) : Le g h g2 h2 :=
  ⟨a.gg.trans c.gg, a.hh.trans c.hh, c.gh, fun x n m => c.new x (a.new x n m) (sameNe a.hh m)⟩
/-- a new kept object -/
theorem Le.laid {p : Addr} {o : HO} (e : Same g h) (n : h p = none) : Le g h (upd g p o) (upd h p o) := by
  refine ⟨fun b u q => ?_, fun b u q => ?_, fun b u q => ?_, fun a q m => ?_⟩
  · rw [upd_ne (ne_of_none (e _ _ q) n)]; exact q
  · rw [upd_ne (ne_of_none q n)]; exact q
  · by_cases hb : b = p
    · subst hb; rw [upd_same] at q ⊢; exact q
    · rw [upd_ne hb] at q ⊢; exact e _ _ q
  · rw [upd_ne (fun z => m (by rw [z]; exact n))]; exact q

theorem S0.le (s : S0 b g h σ env os) (l : Le g h g' h') : S0 b g' h' σ env os where
  gh := l.gh
  len := s.len
  sl := fun i t e => Slot.ok_mono l.gg (s.sl i t e)
  own := fun p hp => by
    obtain ⟨n, o, e, q⟩ := s.own p hp
    exact ⟨l.new _ n (some_ne_none e), o, l.hh _ _ e, p.2.mono l.gg q⟩
  nd := s.nd
  gg := s.gg.trans l.gg
  fr := fun a o n e => l.hh _ _ (s.fr a o n e)
  th := fun a n => sameNe l.hh (s.th a n)
  new := fun a n m => l.new a (s.new a n m) (s.th a m)
  ol := s.ol
/-- at the end of a def that changes nothing -/
theorem S0.fin (s : S0 b g h σ env os) (e : b.ls = []) : Le b.g b.h g h :=
  ⟨s.gg, fun a o q => s.fr a o (by rw [e]; exact fun z => by cases z) q, s.gh, s.new⟩
/-- a name is stored -/
theorem S0.set {i : Nat} {v : V} {t : Slot K} (s : S0 b g h σ env os) (r : t.ok g (some v)) : S0 b g h (σ.set i (some v)) (env.set i t) os where
  gh := s.gh
  len := by rw [List.length_set, List.length_set]; exact s.len
  sl := fun j u e => by
    by_cases hj : i = j
    · subst hj
      have hl : i < env.length := by
        have := (List.getElem?_eq_some_iff.mp e).1
        rwa [List.length_set] at this
      rw [List.getElem?_set_self hl] at e
      cases e
      rw [List.getElem?_set_self (by rw [s.len]; exact hl)]
      exact r
    · rw [List.getElem?_set_ne hj] at e ⊢
      exact s.sl j u e
  own := s.own
  nd := s.nd
  gg := s.gg
  fr := s.fr
  th := s.th
  new := s.new
  ol := s.ol
/-- less is known of the slots -/
theorem S0.weak {env' : Env K} (s : S0 b g h σ env os) (l : env'.length = env.length) (w : ∀ (i : Nat) (t : Slot K), env'[i]? = some t → t = Slot.unk ∨ env[i]? = some t) : S0 b g h σ env' os :=
  { s with
    len := by rw [l]; exact s.len
    sl := fun i t e => by
      rcases w i t e with rfl | z
      · trivial
      · exact s.sl i t z }
/-- an owned object is changed -/
theorem S0.put {k : Nat} {l : Addr} {w w' : Own} {o : HO} (s : S0 b g h σ env os) (e : os[k]? = some (l, w)) (q : w'.P g o) : S0 b g (upd h l o) σ env (os.set k (l, w')) := by
  have hm : (l, w) ∈ os := List.mem_of_getElem? e
  obtain ⟨n, o1, e1, _⟩ := s.own _ hm
  have hk : k < os.length := (List.getElem?_eq_some_iff.mp e).1
  have keys : (os.set k (l, w')).map (·.1) = os.map (·.1) := by
    rw [List.map_set]
    apply List.ext_getElem?
    intro j
    by_cases hj : k = j
    · subst hj
      rw [List.getElem?_set_self (by rw [List.length_map]; exact hk), List.getElem?_map, e]
      rfl
    · rw [List.getElem?_set_ne hj]
  have other : ∀ j p, os[j]? = some p → j ≠ k → p.1 ≠ l := fun j p hj hne z => by
    have n1 := s.nd
    have a1 : (os.map (·.1))[j]? = some l := by rw [List.getElem?_map, hj]; exact congrArg some z
    have a2 : (os.map (·.1))[k]? = some l := by rw [List.getElem?_map, e]; rfl
    exact hne ((List.getElem?_inj (by rw [List.length_map]; exact (List.getElem?_eq_some_iff.mp hj).1) n1).mp (a1.trans a2.symm))
  have mem : ∀ p, p ∈ os.set k (l, w') → p = (l, w') ∨ ∃ j, os[j]? = some p ∧ j ≠ k := fun p hp => by
    obtain ⟨j, hj⟩ := List.mem_iff_getElem?.mp hp
    by_cases hjk : k = j
    · subst hjk
      rw [List.getElem?_set_self hk] at hj
      cases hj
      exact .inl rfl
    · rw [List.getElem?_set_ne hjk] at hj
      exact .inr ⟨j, hj, fun z => hjk z.symm⟩
  refine ⟨fun c u q1 => ?_, s.len, s.sl, fun p hp => ?_, by rw [keys]; exact s.nd, s.gg, fun a u na q1 => ?_, fun a na => ?_, s.new, fun p hp => ?_⟩
  · rw [upd_ne (ne_of_none q1 n)]; exact s.gh _ _ q1
  · rcases mem p hp with rfl | ⟨j, hj, hne⟩
    · exact ⟨n, o, upd_same, q⟩
    · obtain ⟨n2, o2, e2, q2⟩ := s.own p (List.mem_of_getElem? hj)
      exact ⟨n2, o2, by rw [upd_ne (other j p hj hne)]; exact e2, q2⟩
  · have : a ≠ l := fun z => by
      subst z
      rcases s.ol _ hm with z | z
      · rw [show b.h a = none from z] at q1; cases q1
      · exact na z
    rw [upd_ne this]; exact s.fr a u na q1
  · by_cases hb : a = l
    · subst hb; rw [upd_same]; exact fun z => by cases z
    · rw [upd_ne hb]; exact s.th a na
  · rcases mem p hp with rfl | ⟨j, hj, _⟩
    · exact s.ol (l, w) hm
    · exact s.ol p (List.mem_of_getElem? hj)
/-- a new owned object -/
theorem S0.add {l : Addr} {w : Own} {o : HO} (s : S0 b g h σ env os) (n : h l = none) (q : w.P g o) : S0 b g (upd h l o) σ env (os ++ [(l, w)]) := by
  have nb : b.h l = none := by
    cases q : b.h l with
    | none => rfl
    | some u => exact absurd n (s.th l (some_ne_none q))
  have ng : g l = none := s.gh.free n
  refine ⟨fun c u q1 => ?_, s.len, s.sl, fun p hp => ?_, ?_, s.gg, fun a u na q1 => ?_, fun a na => ?_, s.new, fun p hp => ?_⟩
  · show L2.upd h l o c = _
    rw [upd_ne (ne_of_none (s.gh _ _ q1) n)]; exact s.gh _ _ q1
  · show _ ∧ ∃ o', L2.upd h l o p.1 = _ ∧ _
    rcases List.mem_append.mp hp with hp | hp
    · obtain ⟨n2, o2, e2, q2⟩ := s.own p hp
      exact ⟨n2, o2, by rw [upd_ne (ne_of_none e2 n)]; exact e2, q2⟩
    · rw [List.mem_singleton] at hp
      subst hp
      exact ⟨ng, o, upd_same, q⟩
  · rw [List.map_append, List.map_singleton]
    refine List.nodup_append.mpr ⟨s.nd, by simp, fun x hx y hy => ?_⟩
    rw [List.mem_singleton] at hy
    subst hy
    obtain ⟨p, hp, rfl⟩ := List.mem_map.mp hx
    obtain ⟨_, o2, e2, _⟩ := s.own p hp
    exact ne_of_none e2 n
  · show L2.upd h l o a = _
    have : a ≠ l := fun z => by rw [z, nb] at q1; cases q1
    rw [upd_ne this]; exact s.fr a u na q1
  · show L2.upd h l o a ≠ _
    by_cases hb : a = l
    · subst hb; rw [upd_same]; exact fun z => by cases z
    · rw [upd_ne hb]; exact s.th a na
  · rcases List.mem_append.mp hp with hp | hp
    · exact s.ol p hp
    · rw [List.mem_singleton] at hp
      subst hp
      exact .inl nb
end
end Lw
/-! What an expression evaluates to in a told state. -/
namespace Lw
open PySem PySem.Spec PyProof.Rows L2
section
variable {K : PySem.W.Frag}
/-- from each state that is as told, te gives a value of x, and nothing that was there is changed -/
def Ev (te : TE) (env : Env K) (os : Os) {α : Type} [i : Py K α] (x : α) : Prop :=
  ∀ {b : Bs} {g h : Hp} {σ : L2.St} {Q : VK}, S0 b g h σ env os → (∀ v g' h', Le g h g' h' → i.R g' v x → Q v h') → te σ h Q
def EvT (tt : TT) (env : Env K) (os : Os) (c : Bool) : Prop :=
  ∀ {b : Bs} {g h : Hp} {σ : L2.St} {Q : Bool → Hp → Prop}, S0 b g h σ env os → (∀ g' h', Le g h g' h' → Q c h') → tt σ h Q
inductive Args (g : Hp) : List V → List (Slot K) → Prop where
  | nil : Args g [] []
  | cons {v : V} {vs : List V} {s : Slot K} {ss : List (Slot K)} : s.ok g (some v) → Args g vs ss → Args g (v :: vs) (s :: ss)
def EvA (ta : TA) (env : Env K) (os : Os) (xs : List (Slot K)) : Prop :=
  ∀ {b : Bs} {g h : Hp} {σ : L2.St} {Q : List V → Hp → Prop}, S0 b g h σ env os → (∀ vs g' h', Le g h g' h' → Args g' vs xs → Q vs h') → ta σ h Q
/-- arguments of one type -/
def EvL (ta : TA) (env : Env K) (os : Os) {α : Type} [i : Py K α] (xs : List α) : Prop :=
  ∀ {b : Bs} {g h : Hp} {σ : L2.St} {Q : List V → Hp → Prop}, S0 b g h σ env os → (∀ vs g' h', Le g h g' h' → Paired (i.R g') vs xs → Q vs h') → ta σ h Q
def EvO (to : TO) (env : Env K) (os : Os) (o : Option Int) : Prop :=
  ∀ {b : Bs} {g h : Hp} {σ : L2.St} {Q : Option Int → Hp → Prop}, S0 b g h σ env os → (∀ g' h', Le g h g' h' → Q o h') → to σ h Q

theorem args_mono {g g' : Hp} {vs : List V} {xs : List (Slot K)} (e : Same g g') (h : Args g vs xs) : Args g' vs xs := by
  induction h with
  | nil => exact .nil
  | cons r _ ih => exact .cons (Slot.ok_mono e r) ih
theorem pr_mono {α : Type} [i : Py K α] {g g' : Hp} {vs : List V} {xs : List α} (e : Same g g') (h : Paired (i.R g) vs xs) : Paired (i.R g') vs xs := paired_mono (fun _ _ q => i.mono e q) h

variable {env : Env K} {os : Os} {ta tb te tx : TE} {t u : TT} {α β γ : Type} [iα : Py K α] [iβ : Py K β] [iγ : Py K γ]
/-! ### names, constants -/
theorem ev_var {i : Nat} {x : α} (e : env[i]? = some (.val α iα x)) : Ev (tVar i) env os x := fun {b g h σ Q} s q => by
  obtain ⟨v, h1, h2⟩ := s.sl i _ e
  refine ⟨v, ?_, q v g h (Le.refl s.gh) h2⟩
  cases hs : σ[i]? with
  | none => rw [hs] at h1; cases h1
  | some o => rw [hs] at h1; rw [show o = some v from h1]
/-- a name whose value is known not to be None -/
theorem ev_varS {i : Nat} {x : α} (e : env[i]? = some (.val (Option α) instOpt (some x))) : Ev (tVar i) env os x := fun {b g h σ Q} s q =>
  ev_var (x := some x) e s fun v g1 h1 l1 r1 => q v g1 h1 l1 r1.2
theorem ev_int {n : Int} : Ev (tC (.int n)) env os n := fun {b g h σ Q} s q => q _ g h (Le.refl s.gh) rfl
theorem ev_bl {c : Bool} : Ev (tC (.bl c)) env os c := fun {b g h σ Q} s q => q _ g h (Le.refl s.gh) rfl
theorem ev_str {x : Str} : Ev (tC (.str x)) env os x := fun {b g h σ Q} s q => q _ g h (Le.refl s.gh) rfl
theorem ev_non : Ev (tC .non) env os () := fun {b g h σ Q} s q => q _ g h (Le.refl s.gh) rfl
theorem ev_noneO : Ev (tC .non) env os (none : Option α) := fun {b g h σ Q} s q => q _ g h (Le.refl s.gh) rfl
theorem ev_v {v : V} : Ev (tC v) env os v := fun {b g h σ Q} s q => q _ g h (Le.refl s.gh) rfl
theorem Ev.to {x y : α} (h : Ev te env os x) (e : x = y) : Ev te env os y := e ▸ h
theorem EvT.to {c d : Bool} (h : EvT t env os c) (e : c = d) : EvT t env os d := e ▸ h

/-! ### arithmetic, comparisons -/
theorem ev_i2 {f : Int → Int → Int} {x y : Int} (ha : Ev ta env os x) (hb : Ev tb env os y) : Ev (tOp (rI0 fun i j => .int (f i j)) ta tb) env os (f x y) := fun {b g h σ Q} s q =>
  ha s fun v g1 h1 l1 r1 => hb (s.le l1) fun w g2 h2 l2 r2 => ⟨x, y, r1, r2, q _ _ _ (l1.trans l2) rfl⟩
theorem ev_iC {C : Int → Int → Prop} {f : Int → Int → Int} {x y : Int} (ha : Ev ta env os x) (hb : Ev tb env os y) (hc : C x y) : Ev (tOp (rI C fun i j => .int (f i j)) ta tb) env os (f x y) := fun {b g h σ Q} s q =>
  ha s fun v g1 h1 l1 r1 => hb (s.le l1) fun w g2 h2 l2 r2 => ⟨x, y, r1, r2, hc, q _ _ _ (l1.trans l2) rfl⟩
theorem ev_ib {f : Int → Int → Bool} {x y : Int} (ha : Ev ta env os x) (hb : Ev tb env os y) : Ev (tOp (rI0 fun i j => .bl (f i j)) ta tb) env os (f x y) := fun {b g h σ Q} s q =>
  ha s fun v g1 h1 l1 r1 => hb (s.le l1) fun w g2 h2 l2 r2 => ⟨x, y, r1, r2, q _ _ _ (l1.trans l2) rfl⟩
theorem ev_iu {f : Int → Int} {x : Int} (ha : Ev ta env os x) : Ev (tUn (rU fun i => .int (f i)) ta) env os (f x) := fun {b g h σ Q} s q =>
  ha s fun v g1 h1 l1 r1 => ⟨x, r1, q _ _ _ l1 rfl⟩
theorem dec_I {x y : Int} : decide (V.int x = V.int y) = decide (x = y) := by by_cases e : x = y <;> simp [e]
theorem dec_B {x y : Bool} : decide (V.bl x = V.bl y) = decide (x = y) := by by_cases e : x = y <;> simp [e]
theorem dec_S {x y : Str} : decide (V.str x = V.str y) = decide (x = y) := by by_cases e : x = y <;> simp [e]
theorem ev_eqI {x y : Int} (ha : Ev ta env os x) (hb : Ev tb env os y) : Ev (tOp rEq ta tb) env os (decide (x = y)) := fun {b g h σ Q} s q =>
  ha s fun v g1 h1 l1 r1 => hb (s.le l1) fun w g2 h2 l2 r2 => by
    cases r1; cases r2
    exact ⟨rfl, by rw [dec_I]; exact q _ _ _ (l1.trans l2) rfl⟩
theorem ev_neI {x y : Int} (ha : Ev ta env os x) (hb : Ev tb env os y) : Ev (tOp rNe ta tb) env os (!decide (x = y)) := fun {b g h σ Q} s q =>
  ha s fun v g1 h1 l1 r1 => hb (s.le l1) fun w g2 h2 l2 r2 => by
    cases r1; cases r2
    exact ⟨rfl, by rw [dec_I]; exact q _ _ _ (l1.trans l2) rfl⟩
theorem ev_eqS {x y : Str} (ha : Ev ta env os x) (hb : Ev tb env os y) : Ev (tOp rEq ta tb) env os (decide (x = y)) := fun {b g h σ Q} s q =>
  ha s fun v g1 h1 l1 r1 => hb (s.le l1) fun w g2 h2 l2 r2 => by
    cases r1; cases r2
    exact ⟨rfl, by rw [dec_S]; exact q _ _ _ (l1.trans l2) rfl⟩
theorem ev_neS {x y : Str} (ha : Ev ta env os x) (hb : Ev tb env os y) : Ev (tOp rNe ta tb) env os (!decide (x = y)) := fun {b g h σ Q} s q =>
  ha s fun v g1 h1 l1 r1 => hb (s.le l1) fun w g2 h2 l2 r2 => by
    cases r1; cases r2
    exact ⟨rfl, by rw [dec_S]; exact q _ _ _ (l1.trans l2) rfl⟩
theorem ev_eqB {x y : Bool} (ha : Ev ta env os x) (hb : Ev tb env os y) : Ev (tOp rEq ta tb) env os (decide (x = y)) := fun {b g h σ Q} s q =>
  ha s fun v g1 h1 l1 r1 => hb (s.le l1) fun w g2 h2 l2 r2 => by
    cases r1; cases r2
    exact ⟨rfl, by rw [dec_B]; exact q _ _ _ (l1.trans l2) rfl⟩
theorem ev_neB {x y : Bool} (ha : Ev ta env os x) (hb : Ev tb env os y) : Ev (tOp rNe ta tb) env os (!decide (x = y)) := fun {b g h σ Q} s q =>
  ha s fun v g1 h1 l1 r1 => hb (s.le l1) fun w g2 h2 l2 r2 => by
    cases r1; cases r2
    exact ⟨rfl, by rw [dec_B]; exact q _ _ _ (l1.trans l2) rfl⟩
theorem opt_non {g : Hp} {v : V} {x : Option α} (r : (instOpt (K := K) (α := α)).R g v x) : decide (v = V.non) = x.isNone := by
  cases x with
  | none => rw [show v = V.non from r]; rfl
  | some y => exact decide_eq_false r.1
theorem ev_isN {x : Option α} (ha : Ev ta env os x) : Ev (tOp (fun x y H Q => y = V.non ∧ Q (.bl (decide (x = .non))) H) ta (tC .non)) env os x.isNone := fun {b g h σ Q} s q =>
  ha s fun v g1 h1 l1 r1 => ⟨rfl, by rw [opt_non r1]; exact q _ _ _ l1 rfl⟩
theorem ev_notN {x : Option α} (ha : Ev ta env os x) : Ev (tOp (fun x y H Q => y = V.non ∧ Q (.bl (!decide (x = .non))) H) ta (tC .non)) env os (!x.isNone) := fun {b g h σ Q} s q =>
  ha s fun v g1 h1 l1 r1 => ⟨rfl, by rw [opt_non r1]; exact q _ _ _ l1 rfl⟩
/-! ### tests -/
theorem et_test {c : Bool} (h : Ev te env os c) : EvT (tTest te) env os c := fun {b g h' σ Q} s q => h s fun v g1 h1 l1 r1 => ⟨c, r1, q _ _ l1⟩
theorem et_B {c : Bool} (h : Ev te env os c) : EvT (tB te) env os c := fun {b g h' σ Q} s q => h s fun v g1 h1 l1 r1 => ⟨c, r1, q _ _ l1⟩
theorem et_and {c d : Bool} (h1 : EvT t env os c) (h2 : c = true → EvT u env os d) : EvT (tAnd t u) env os (c && d) := fun {b g h σ Q} s q => h1 s fun g1 h' l1 => by
  cases c with
  | true => exact h2 rfl (s.le l1) fun g2 h2 l2 => q _ _ (l1.trans l2)
  | false => exact q _ _ l1
theorem et_or {c d : Bool} (h1 : EvT t env os c) (h2 : c = false → EvT u env os d) : EvT (tOr t u) env os (c || d) := fun {b g h σ Q} s q => h1 s fun g1 h' l1 => by
  cases c with
  | true => exact q _ _ l1
  | false => exact h2 rfl (s.le l1) fun g2 h2 l2 => q _ _ (l1.trans l2)
theorem et_not {c : Bool} (h1 : EvT t env os c) : EvT (tNot t) env os (!c) := fun {b g h σ Q} s q => h1 s fun g1 h' l1 => q _ _ l1
theorem ev_andV {c d : Bool} (h1 : Ev ta env os c) (h2 : c = true → Ev tb env os d) : Ev (tAndV ta tb) env os (c && d) := fun {b g h σ Q} s q => h1 s fun v g1 h' l1 r1 => ⟨c, r1, by
  cases c with
  | true => exact h2 rfl (s.le l1) fun v g2 h2 l2 r2 => q _ _ _ (l1.trans l2) r2
  | false => exact q _ _ _ l1 rfl⟩
theorem ev_orV {c d : Bool} (h1 : Ev ta env os c) (h2 : c = false → Ev tb env os d) : Ev (tOrV ta tb) env os (c || d) := fun {b g h σ Q} s q => h1 s fun v g1 h' l1 r1 => ⟨c, r1, by
  cases c with
  | true => exact q _ _ _ l1 rfl
  | false => exact h2 rfl (s.le l1) fun v g2 h2 l2 r2 => q _ _ _ (l1.trans l2) r2⟩
theorem ev_notV {c : Bool} (h1 : Ev ta env os c) : Ev (tNotV ta) env os (!c) := fun {b g h σ Q} s q => h1 s fun v g1 h' l1 r1 => ⟨c, r1, q _ _ _ l1 rfl⟩
theorem ev_if {c : Bool} {x y : α} (h : EvT t env os c) (h1 : c = true → Ev ta env os x) (h2 : c = false → Ev tb env os y) : Ev (tIf t ta tb) env os (if c = true then x else y) := fun {b g h' σ Q} s q => h s fun g1 h' l1 => by
  cases c with
  | true => exact h1 rfl (s.le l1) fun v g2 h2 l2 r2 => q _ _ _ (l1.trans l2) r2
  | false => exact h2 rfl (s.le l1) fun v g2 h2 l2 r2 => q _ _ _ (l1.trans l2) r2
/-- a value's truth -/
theorem et_truL {xs : List α} (h : Ev te env os xs) : EvT (fun σ H Q => te σ H fun x H' => ∃ k, TruV K x H' k ∧ Q k H') env os (!xs.isEmpty) := fun {b g h' σ Q} s q => h s fun v g1 h1 l1 r1 => by
  obtain ⟨a, vs, rfl, h2, h3⟩ := r1
  refine ⟨_, .inl ⟨vs, l1.gh.seq h2, rfl⟩, ?_⟩
  have e : (!vs.isEmpty) = !xs.isEmpty := by cases h3 <;> rfl
  rw [e]
  exact q _ _ l1
theorem et_truT {xs : Tup α} (h : Ev te env os xs) : EvT (fun σ H Q => te σ H fun x H' => ∃ k, TruV K x H' k ∧ Q k H') env os (!xs.l.isEmpty) := fun {b g h' σ Q} s q => h s fun v g1 h1 l1 r1 => by
  obtain ⟨a, vs, rfl, h2, h3⟩ := r1
  obtain ⟨xs⟩ := xs
  refine ⟨_, .inr (.inl ⟨vs, same_tup l1.gh h2, rfl⟩), ?_⟩
  have e : (!vs.isEmpty) = !xs.isEmpty := by cases h3 <;> rfl
  rw [e]
  exact q _ _ l1
theorem et_truB {c : Bool} (h : Ev te env os c) : EvT (fun σ H Q => te σ H fun x H' => ∃ k, TruV K x H' k ∧ Q k H') env os c := fun {b g h' σ Q} s q => h s fun v g1 h1 l1 r1 => by
  cases r1
  exact ⟨c, rfl, q _ _ l1⟩
theorem et_truI {x : Int} (h : Ev te env os x) : EvT (fun σ H Q => te σ H fun x H' => ∃ k, TruV K x H' k ∧ Q k H') env os (x != 0) := fun {b g h' σ Q} s q => h s fun v g1 h1 l1 r1 => by
  cases r1
  exact ⟨_, rfl, q _ _ l1⟩

/-! ### arguments, displays -/
theorem ea_nil : EvA tNil env os [] := fun {b g h σ Q} s q => q _ g h (Le.refl s.gh) .nil
theorem ea_cons {tr : TA} {x : α} {xs : List (Slot K)} (h : Ev ta env os x) (hr : EvA tr env os xs) : EvA (tCons ta tr) env os (sv x :: xs) := fun {b g h' σ Q} s q =>
  h s fun v g1 h1 l1 r1 => hr (s.le l1) fun vs g2 h2 l2 r2 => q _ _ _ (l1.trans l2) (.cons ⟨v, rfl, iα.mono l2.gg r1⟩ r2)
theorem el_nil : EvL tNil env os ([] : List α) := fun {b g h σ Q} s q => q _ g h (Le.refl s.gh) .nil
theorem el_cons {tr : TA} {x : α} {xs : List α} (h : Ev ta env os x) (hr : EvL tr env os xs) : EvL (tCons ta tr) env os (x :: xs) := fun {b g h' σ Q} s q =>
  h s fun v g1 h1 l1 r1 => hr (s.le l1) fun vs g2 h2 l2 r2 => q _ _ _ (l1.trans l2) (.cons (iα.mono l2.gg r1) r2)
theorem ev_tupL {tr : TA} {xs : List α} (h : EvL tr env os xs) (hl : xs.length ≤ 100000 := by first | decide | simp) : Ev (tTup tr) env os (Tup.mk xs) := fun {b g h' σ Q} s q =>
  h s fun vs g1 h1 l1 r1 => ⟨by rw [r1.length]; exact Nat.le_trans hl (by decide), fun p hp => q _ (upd g1 p (.tup vs)) _ (l1.trans (Le.laid l1.gh hp)) ⟨p, vs, rfl, upd_same, pr_mono (Le.laid l1.gh hp).gg r1⟩⟩
theorem ev_lstL {tr : TA} {xs : List α} (h : EvL tr env os xs) (hl : xs.length ≤ 100000 := by first | decide | simp) : Ev (tLst tr) env os xs := fun {b g h' σ Q} s q =>
  h s fun vs g1 h1 l1 r1 => ⟨by rw [r1.length]; exact Nat.le_trans hl (by decide), fun p hp => q _ (upd g1 p (.lst vs)) _ (l1.trans (Le.laid l1.gh hp)) ⟨p, vs, rfl, .inl (.inl upd_same), pr_mono (Le.laid l1.gh hp).gg r1⟩⟩
theorem ev_pair {x : α} {y : β} (ha : Ev ta env os x) (hb : Ev tb env os y) : Ev (tTup (tCons ta (tCons tb tNil))) env os (x, y) := fun {b g h' σ Q} s q =>
  ha s fun v g1 h1 l1 r1 => hb (s.le l1) fun w g2 h2 l2 r2 => ⟨by show 2 ≤ sizeLine; decide, fun p hp => q _ (upd g2 p (.tup [v, w])) _ ((l1.trans l2).trans (Le.laid l2.gh hp))
    ⟨p, v, w, rfl, upd_same, iα.mono (l2.gg.trans (Le.laid l2.gh hp).gg) r1, iβ.mono (Le.laid l2.gh hp).gg r2⟩⟩

/-! ### subscripts -/
theorem atI_map {xs : List α} {vs : List V} {g : Hp} {i : Int} {x : α} (r : Paired (iα.R g) vs xs) (h : atI xs i = some x) : ∃ v, atI vs i = some v ∧ iα.R g v x := by
  unfold atI at h ⊢
  rw [r.length]
  cases e : ixN xs.length i with
  | none => rw [e] at h; cases h
  | some j =>
    rw [e] at h
    exact paired_get r h
theorem ev_ixL {xs : List α} {i : Int} {x : α} (ha : Ev ta env os xs) (hb : Ev tb env os i) (h : atI xs i = some x) : Ev (tOp (rIxL K) ta tb) env os x := fun {b g h' σ Q} s q =>
  ha s fun v g1 h1 l1 r1 => hb (s.le l1) fun w g2 h2 l2 r2 => by
    obtain ⟨a, vs, rfl, h3, h4⟩ := r1
    obtain ⟨v, e, r⟩ := atI_map h4 h
    exact ⟨a, vs, i, v, rfl, r2, (l2.gg.trans l2.gh).seq h3, e, q _ _ _ (l1.trans l2) (iα.mono l2.gg r)⟩
theorem ev_ixT {xs : Tup α} {i : Int} {x : α} (ha : Ev ta env os xs) (hb : Ev tb env os i) (h : atI xs.l i = some x) : Ev (tOp (rIxT K) ta tb) env os x := fun {b g h' σ Q} s q =>
  ha s fun v g1 h1 l1 r1 => hb (s.le l1) fun w g2 h2 l2 r2 => by
    obtain ⟨a, vs, rfl, h3, h4⟩ := r1
    obtain ⟨v, e, r⟩ := atI_map h4 h
    exact ⟨a, vs, i, v, rfl, r2, same_tup (l2.gg.trans l2.gh) h3, e, q _ _ _ (l1.trans l2) (iα.mono l2.gg r)⟩
theorem ev_ixP0 {x : α × β} (ha : Ev ta env os x) : Ev (tOp (rIxT K) ta (tC (.int 0))) env os x.1 := fun {b g h' σ Q} s q =>
  ha s fun v g1 h1 l1 r1 => by
    obtain ⟨a, u, w, rfl, h3, h4, h5⟩ := r1
    exact ⟨a, [u, w], 0, u, rfl, rfl, same_tup l1.gh h3, rfl, q _ _ _ l1 h4⟩
theorem ev_ixP1 {x : α × β} (ha : Ev ta env os x) : Ev (tOp (rIxT K) ta (tC (.int 1))) env os x.2 := fun {b g h' σ Q} s q =>
  ha s fun v g1 h1 l1 r1 => by
    obtain ⟨a, u, w, rfl, h3, h4, h5⟩ := r1
    exact ⟨a, [u, w], 1, w, rfl, rfl, same_tup l1.gh h3, rfl, q _ _ _ l1 h5⟩
theorem ev_ixS {z : Str} {i : Int} {c : Nat} (ha : Ev ta env os z) (hb : Ev tb env os i) (hz : z.length ≤ sizeLine) (h : atI z.cps.toList i = some c) : Ev (tOp rIxS ta tb) env os (⟨#[c]⟩ : Str) := fun {b g h' σ Q} s q =>
  ha s fun v g1 h1 l1 r1 => hb (s.le l1) fun w g2 h2 l2 r2 => ⟨z, i, c, r1, r2, hz, h, q _ _ _ (l1.trans l2) rfl⟩
/-! ### slices -/
theorem eo_none : EvO tNoPart env os none := fun {b g h σ Q} s q => q g h (Le.refl s.gh)
theorem eo_some {i : Int} (h : Ev te env os i) : EvO (tPart te) env os (some i) := fun {b g h' σ Q} s q => h s fun v g1 h1 l1 r1 => ⟨i, r1, q _ _ l1⟩
/-- xs[lo:hi] -/
def cut {α : Type} (xs : List α) (lo hi : Option Int) : List α := (xs.drop (HT.sIx xs.length 0 lo)).take (HT.sIx xs.length xs.length hi - HT.sIx xs.length 0 lo)
theorem paired_cut {F : V → α → Prop} {vs : List V} {xs : List α} {lo hi : Option Int} (r : Paired F vs xs) : Paired F (cutV vs lo hi) (cut xs lo hi) := by
  unfold cutV cut
  rw [r.length]
  exact paired_take _ (paired_drop _ r)
theorem ev_slL {xs : List α} {lo hi : Option Int} {tl th : TO} (ha : Ev ta env os xs) (h1 : EvO tl env os lo) (h2 : EvO th env os hi) : Ev (tSl (rSlL K) ta tl th) env os (cut xs lo hi) := fun {b g h' σ Q} s q =>
  ha s fun v g1 h3 l1 r1 => h1 (s.le l1) fun g2 h4 l2 => h2 ((s.le l1).le l2) fun g3 h5 l3 => by
    obtain ⟨a, vs, rfl, h6, h7⟩ := r1
    have l := l2.trans l3
    refine ⟨a, vs, rfl, (l.gg.trans l.gh).seq h6, fun p hp => q _ (upd g3 p (.lst (cutV vs lo hi))) _ ((l1.trans l).trans (Le.laid l3.gh hp)) ⟨p, _, rfl, .inl (.inl upd_same), pr_mono (l.gg.trans (Le.laid l3.gh hp).gg) (paired_cut h7)⟩⟩
theorem ev_slT {xs : Tup α} {lo hi : Option Int} {tl th : TO} (ha : Ev ta env os xs) (h1 : EvO tl env os lo) (h2 : EvO th env os hi) : Ev (tSl (rSlA K) ta tl th) env os (Tup.mk (cut xs.l lo hi)) := fun {b g h' σ Q} s q =>
  ha s fun v g1 h3 l1 r1 => h1 (s.le l1) fun g2 h4 l2 => h2 ((s.le l1).le l2) fun g3 h5 l3 => by
    obtain ⟨a, vs, rfl, h6, h7⟩ := r1
    have l := l2.trans l3
    refine ⟨a, vs, rfl, same_tup (l.gg.trans l.gh) h6, fun hw => ?_, fun _ p hp => q _ (upd g3 p (.tup (cutV vs lo hi))) _ ((l1.trans l).trans (Le.laid l3.gh hp)) ⟨p, _, rfl, upd_same, pr_mono (l.gg.trans (Le.laid l3.gh hp).gg) (paired_cut h7)⟩⟩
    have e : cut xs.l lo hi = xs.l := by
      unfold cut
      rw [← h7.length, hw.1, hw.2, h7.length]
      simp
    exact q _ _ _ (l1.trans l) ⟨a, vs, rfl, l.gg _ _ h6, by rw [e]; exact pr_mono l.gg h7⟩
/-! ### tuple + tuple, list + list, repeats -/
theorem ev_catT {xs ys : Tup α} (ha : Ev ta env os xs) (hb : Ev tb env os ys) (hl : xs.l.length + ys.l.length ≤ sizeLine) : Ev (tOp (rCatA K) ta tb) env os (Tup.mk (xs.l ++ ys.l)) := fun {b g h' σ Q} s q =>
  ha s fun v g1 h1 l1 r1 => hb (s.le l1) fun w g2 h2 l2 r2 => by
    obtain ⟨a, vs, rfl, h3, h4⟩ := r1
    obtain ⟨a', ws, rfl, h5, h6⟩ := r2
    have h3' := l2.gg _ _ h3
    have h4' := pr_mono l2.gg h4
    refine ⟨a, a', vs, ws, rfl, rfl, same_tup l2.gh h3', same_tup l2.gh h5, by rw [h4.length, h6.length]; exact hl, fun e => ?_, fun _ e => ?_, fun _ _ p hp => ?_⟩
    · subst e
      have e : xs.l = [] := by cases xs with | mk l => cases h4; rfl
      exact q _ _ _ (l1.trans l2) ⟨a', ws, rfl, h5, by rw [e]; exact h6⟩
    · subst e
      have e : ys.l = [] := by cases ys with | mk l => cases h6; rfl
      exact q _ _ _ (l1.trans l2) ⟨a, vs, rfl, h3', by rw [e, List.append_nil]; exact h4'⟩
    · exact q _ (upd g2 p (.tup (vs ++ ws))) _ ((l1.trans l2).trans (Le.laid l2.gh hp)) ⟨p, _, rfl, upd_same, pr_mono (Le.laid l2.gh hp).gg (paired_append h4' h6)⟩
/-! ### built-ins on data -/
theorem ev_cb1 {r : List V → Hp → VK → Prop} {x : α} {z : β} (ha : Ev ta env os x) (hr : ∀ v g h, Same g h → iα.R g v x → ∀ Q : VK, (∀ v' g' h', Le g h g' h' → iβ.R g' v' z → Q v' h') → r [v] h Q) : Ev (tCB r (tCons ta tNil)) env os z := fun {b g h' σ Q} s q =>
  ha s fun v g1 h1 l1 r1 => hr v g1 h1 l1.gh r1 Q fun v' g' h' l2 r2 => q _ _ _ (l1.trans l2) r2
theorem ev_cb2 {r : List V → Hp → VK → Prop} {x : α} {y : γ} {z : β} (ha : Ev ta env os x) (hb : Ev tb env os y) (hr : ∀ v w g h, Same g h → iα.R g v x → iγ.R g w y → ∀ Q : VK, (∀ v' g' h', Le g h g' h' → iβ.R g' v' z → Q v' h') → r [v, w] h Q) : Ev (tCB r (tCons ta (tCons tb tNil))) env os z := fun {b g h' σ Q} s q =>
  ha s fun v g1 h1 l1 r1 => hb (s.le l1) fun w g2 h2 l2 r2 => hr v w g2 h2 l2.gh (iα.mono l2.gg r1) r2 Q fun v' g' h' l3 r3 => q _ _ _ ((l1.trans l2).trans l3) r3
/-- the readings of len, list, tuple as the library's rules print them -/
abbrev rLenQ (K : PySem.W.Frag) : List V → Hp → VK → Prop := fun xs H Q => ∃ p ys, xs = [V.ref p] ∧ (SqL K H p ys ∨ SqT K H p ys) ∧ Q (.int ys.length) H
theorem ev_lenL {xs : List α} (ha : Ev ta env os xs) : Ev (tCB (fun xs H Q => ∃ p ys, xs = [V.ref p] ∧ (SqL K H p ys ∨ SqT K H p ys) ∧ Q (.int ys.length) H) (tCons ta tNil)) env os (xs.length : Int) := ev_cb1 ha fun v g h e r Q q => by
  obtain ⟨a, vs, rfl, h1, h2⟩ := r
  exact ⟨a, vs, rfl, .inl (e.seq h1), q _ g h (Le.refl e) (by rw [h2.length]; rfl)⟩
theorem ev_lenT {xs : Tup α} (ha : Ev ta env os xs) : Ev (tCB (fun xs H Q => ∃ p ys, xs = [V.ref p] ∧ (SqL K H p ys ∨ SqT K H p ys) ∧ Q (.int ys.length) H) (tCons ta tNil)) env os (xs.l.length : Int) := ev_cb1 ha fun v g h e r Q q => by
  obtain ⟨a, vs, rfl, h1, h2⟩ := r
  exact ⟨a, vs, rfl, .inr (same_tup e h1), q _ g h (Le.refl e) (by rw [h2.length]; rfl)⟩
theorem ev_lenS {z : Str} (ha : Ev ta env os z) (hz : z.length ≤ sizeLine) : Ev (tCB (fun xs H Q => ∃ z, xs = [V.str z] ∧ z.length ≤ sizeLine ∧ Q (.int z.length) H) (tCons ta tNil)) env os (z.length : Int) := ev_cb1 ha fun v g h e r Q q => by
  cases r
  exact ⟨z, rfl, hz, q _ g h (Le.refl e) rfl⟩
theorem ev_listL {xs : List α} (ha : Ev ta env os xs) : Ev (tCB (fun xs H Q => ∃ p ys, xs = [V.ref p] ∧ (SqL K H p ys ∨ SqT K H p ys) ∧ ∀ l, H l = none → Q (.ref l) (upd H l (.lst ys))) (tCons ta tNil)) env os xs := ev_cb1 ha fun v g h e r Q q => by
  obtain ⟨a, vs, rfl, h1, h2⟩ := r
  exact ⟨a, vs, rfl, .inl (e.seq h1), fun l hl => q _ (upd g l (.lst vs)) _ (Le.laid e hl) ⟨l, vs, rfl, .inl (.inl upd_same), pr_mono (Le.laid e hl).gg h2⟩⟩
theorem ev_listT {xs : Tup α} (ha : Ev ta env os xs) : Ev (tCB (fun xs H Q => ∃ p ys, xs = [V.ref p] ∧ (SqL K H p ys ∨ SqT K H p ys) ∧ ∀ l, H l = none → Q (.ref l) (upd H l (.lst ys))) (tCons ta tNil)) env os xs.l := ev_cb1 ha fun v g h e r Q q => by
  obtain ⟨a, vs, rfl, h1, h2⟩ := r
  exact ⟨a, vs, rfl, .inr (same_tup e h1), fun l hl => q _ (upd g l (.lst vs)) _ (Le.laid e hl) ⟨l, vs, rfl, .inl (.inl upd_same), pr_mono (Le.laid e hl).gg h2⟩⟩
theorem ev_tupleL {xs : List α} (ha : Ev ta env os xs) : Ev (tCB (fun xs H Q => ∃ p ys, xs = [V.ref p] ∧ ((SqL K H p ys ∧ ∀ l, H l = none → Q (.ref l) (upd H l (.tup ys))) ∨ (SqT K H p ys ∧ Q (.ref p) H))) (tCons ta tNil)) env os (Tup.mk xs) := ev_cb1 ha fun v g h e r Q q => by
  obtain ⟨a, vs, rfl, h1, h2⟩ := r
  exact ⟨a, vs, rfl, .inl ⟨e.seq h1, fun l hl => q _ (upd g l (.tup vs)) _ (Le.laid e hl) ⟨l, vs, rfl, upd_same, pr_mono (Le.laid e hl).gg h2⟩⟩⟩
theorem ev_tupleT {xs : Tup α} (ha : Ev ta env os xs) : Ev (tCB (fun xs H Q => ∃ p ys, xs = [V.ref p] ∧ ((SqL K H p ys ∧ ∀ l, H l = none → Q (.ref l) (upd H l (.tup ys))) ∨ (SqT K H p ys ∧ Q (.ref p) H))) (tCons ta tNil)) env os xs := ev_cb1 ha fun v g h e r Q q => by
  obtain ⟨a, vs, rfl, h1, h2⟩ := r
  exact ⟨a, vs, rfl, .inr ⟨same_tup e h1, q _ g h (Le.refl e) ⟨a, vs, rfl, h1, h2⟩⟩⟩
theorem ev_sum {xs : List Int} (ha : Ev ta env os xs) : Ev (tCB (rSum K) (tCons ta tNil)) env os xs.sum := ev_cb1 ha fun v g h e r Q q => by
  obtain ⟨a, vs, rfl, h1, h2⟩ := r
  refine ⟨a, xs, rfl, ?_, q _ g h (Le.refl e) rfl⟩
  rw [← paired_eq h2]
  exact e.seq h1
theorem ev_any {xs : List Bool} (ha : Ev ta env os xs) : Ev (tCB (rAny K) (tCons ta tNil)) env os (xs.any id) := ev_cb1 ha fun v g h e r Q q => by
  obtain ⟨a, vs, rfl, h1, h2⟩ := r
  refine ⟨a, xs, rfl, ?_, q _ g h (Le.refl e) rfl⟩
  rw [← paired_eq h2]
  exact e.seq h1
theorem ev_all {xs : List Bool} (ha : Ev ta env os xs) : Ev (tCB (rAll K) (tCons ta tNil)) env os (xs.all id) := ev_cb1 ha fun v g h e r Q q => by
  obtain ⟨a, vs, rfl, h1, h2⟩ := r
  refine ⟨a, xs, rfl, ?_, q _ g h (Le.refl e) rfl⟩
  rw [← paired_eq h2]
  exact e.seq h1
theorem ev_intI {x : Int} (ha : Ev ta env os x) : Ev (tCB (fun xs H Q => (∃ i, xs = [V.int i] ∧ Q (.int i) H) ∨ ∃ k, xs = [V.bl k] ∧ Q (.int (if k then 1 else 0)) H) (tCons ta tNil)) env os x := ev_cb1 ha fun v g h e r Q q => by
  cases r
  exact .inl ⟨x, rfl, q _ g h (Le.refl e) rfl⟩
theorem ev_intB {x : Bool} (ha : Ev ta env os x) : Ev (tCB (fun xs H Q => (∃ i, xs = [V.int i] ∧ Q (.int i) H) ∨ ∃ k, xs = [V.bl k] ∧ Q (.int (if k then 1 else 0)) H) (tCons ta tNil)) env os (if x then 1 else 0 : Int) := ev_cb1 ha fun v g h e r Q q => by
  cases r
  exact .inr ⟨x, rfl, q _ g h (Le.refl e) rfl⟩
theorem ev_max2 {x y : Int} (ha : Ev ta env os x) (hb : Ev tb env os y) : Ev (tCB (fun xs H Q => ∃ i j, xs = [V.int i, V.int j] ∧ Q (.int (if j > i then j else i)) H) (tCons ta (tCons tb tNil))) env os (if y > x then y else x) := ev_cb2 ha hb fun v w g h e r1 r2 Q q => by
  cases r1; cases r2
  exact ⟨x, y, rfl, q _ g h (Le.refl e) rfl⟩
theorem ev_min2 {x y : Int} (ha : Ev ta env os x) (hb : Ev tb env os y) : Ev (tCB (fun xs H Q => ∃ i j, xs = [V.int i, V.int j] ∧ Q (.int (if j < i then j else i)) H) (tCons ta (tCons tb tNil))) env os (if y < x then y else x) := ev_cb2 ha hb fun v w g h e r1 r2 Q q => by
  cases r1; cases r2
  exact ⟨x, y, rfl, q _ g h (Le.refl e) rfl⟩
theorem ev_gcd {x y : Int} (ha : Ev ta env os x) (hb : Ev tb env os y) : Ev (tCB rGcd (tCons ta (tCons tb tNil))) env os ((Nat.gcd x.natAbs y.natAbs : Nat) : Int) := ev_cb2 ha hb fun v w g h e r1 r2 Q q => by
  cases r1; cases r2
  exact ⟨x, y, rfl, q _ g h (Le.refl e) rfl⟩
theorem ev_abs {x : Int} (ha : Ev ta env os x) : Ev (tCB (fun xs H Q => ∃ i, xs = [V.int i] ∧ Q (.int (if i < 0 then -i else i)) H) (tCons ta tNil)) env os (if x < 0 then -x else x) := ev_cb1 ha fun v g h e r Q q => by
  cases r
  exact ⟨x, rfl, q _ g h (Le.refl e) rfl⟩
end
end Lw
/-! Statements, loops, comprehensions, calls over told states. -/
namespace Lw
open PySem PySem.Spec PyProof.Rows L2
section
variable {K : PySem.W.Frag} {env : Env K} {os : Os} {ta tb te tx : TE} {t u : TT} {α β γ : Type} [iα : Py K α] [iβ : Py K β] [iγ : Py K γ]
variable {b : Bs} {g h : Hp} {σ : L2.St} {D : Ends} {t1 t2 : TS} {i j : Nat}
theorem st_set {x : α} (s : S0 b g h σ env os) (e : Ev te env os x) (k : ∀ v g' h', S0 b g' h' (σ.set i (some v)) (env.set i (sv x)) os → D.nx (σ.set i (some v)) h') : tAsg te (gName i) D σ h :=
  e s fun v g' h' l r => k v g' h' ((s.le l).set ⟨v, rfl, r⟩)
theorem st_drop {x : α} (s : S0 b g h σ env os) (e : Ev te env os x) (k : ∀ g' h', S0 b g' h' σ env os → D.nx σ h') : tDrop te D σ h :=
  e s fun v g' h' l r => k g' h' (s.le l)
theorem st_ret {x : α} (s : S0 b g h σ env os) (e : Ev te env os x) (k : ∀ v g' h', S0 b g' h' σ env os → iα.R g' v x → D.rt v h') : tRet te D σ h :=
  e s fun v g' h' l r => k v g' h' (s.le l) r
theorem st_if {c : Bool} (s : S0 b g h σ env os) (e : EvT t env os c) (k1 : c = true → ∀ g' h', S0 b g' h' σ env os → t1 D σ h') (k2 : c = false → ∀ g' h', S0 b g' h' σ env os → t2 D σ h') : tIfS t t1 t2 D σ h :=
  e s fun g' h' l => by
    cases c with
    | true => exact k1 rfl g' h' (s.le l)
    | false => exact k2 rfl g' h' (s.le l)
theorem st_aug {f : Int → Int → Int} {x y : Int} (s : S0 b g h σ env os) (e : env[i]? = some (.val Int inferInstance x)) (ey : Ev te env os y) (k : ∀ v g' h', S0 b g' h' (σ.set i (some v)) (env.set i (sv (f x y))) os → D.nx (σ.set i (some v)) h') : tAug i te (ipI f) D σ h := by
  obtain ⟨v, h1, h2⟩ := s.sl i _ e
  refine ⟨v, ?_, ey s fun w g' h' l r => ⟨x, y, h2, r, k _ g' h' ((s.le l).set ⟨_, rfl, rfl⟩)⟩⟩
  cases hs : σ[i]? with
  | none => rw [hs] at h1; cases h1
  | some o => rw [hs] at h1; rw [show o = some v from h1]

/-! ### another base -/
abbrev Bs.at (b : Bs) (g : Hp) : Bs := { b with g := g }
theorem S0.enter (s : S0 b g h σ env os) : S0 (b.at g) g h σ env os := { s with gg := Same.refl _, new := fun _ n _ => n }
theorem S0.leave {g1 h1 : Hp} {σ1 : L2.St} {env1 : Env K} {os1 : Os} (s1 : S0 b g1 h1 σ1 env1 os1) (s : S0 (b.at g1) g h σ env os) : S0 b g h σ env os :=
  { s with gg := s1.gg.trans s.gg, new := fun a n m => s.new a (s1.new a n m) m }

/-! ### targets -/
/-- the target g, from a value of x, makes of the slots f env x -/
def TgtF (g : TG) (vs : List Nat) (f : Env K → α → Env K) : Prop :=
  ∀ {b : Bs} {g1 H : Hp} {σ : L2.St} {v : V} {os : Os} {Q : L2.St → Hp → Prop} {env : Env K} {x : α}, S0 b g1 H σ env os → iα.R g1 v x → (∀ σ2, wipe σ2 vs = wipe σ vs → S0 b g1 H σ2 (f env x) os → Q σ2 H) → g v σ H Q
theorem tgt_name : TgtF (K := K) (α := α) (gName i) [i] (fun env x => env.set i (sv x)) := fun {b g1 H σ v os Q env x} s r q =>
  q _ (by show (σ.set i (some v)).set i none = σ.set i none; rw [List.set_set]) (s.set ⟨v, rfl, r⟩)
theorem tgt_pair : TgtF (K := K) (α := α × β) (gTup K 2 (gCons (gName i) (gCons (gName j) gNil))) [i, j] (fun env x => (env.set i (sv x.1)).set j (sv x.2)) := fun {b g1 H σ v os Q env x} s r q => by
  obtain ⟨a, u, w, rfl, h1, h2, h3⟩ := r
  refine ⟨a, [u, w], rfl, same_tup s.gh h1, rfl, u, [w], rfl, w, [], rfl, rfl, q _ ?_ ((s.set (t := sv x.1) ⟨u, rfl, h2⟩).set (t := sv x.2) ⟨w, rfl, h3⟩)⟩
  show ((((σ.set i (some u)).set j (some w)).set j none).set i none) = (σ.set j none).set i none
  rw [List.set_set]
  by_cases hij : i = j
  · subst hij; rw [List.set_set, List.set_set, List.set_set]
  · rw [List.set_comm (some u) none hij, List.set_set]

/-! ### loops -/
section
variable {tb : TS} {I : Nat → Env K → Os → Prop} {gt : TG} {ws : List Nat} {f : Env K → α → Env K}
/-- one turn: from the item's store on, N to be reached by the next invariant -/
abbrev Turn1 (b : Bs) (D : Ends) (tb : TS) (I : Nat → Env K → Os → Prop) (n : Nat) (f : Env K → Env K) : Prop :=
  ∀ (c : Bs) (_ : c.ls = b.ls) (env' : Env K) (os' : Os) (g' h' : Hp) (σ' : L2.St) (N : L2.St → Hp → Prop), I n env' os' → (∀ {g2 h2 σ2} {env2 : Env K} {os2}, S0 c g2 h2 σ2 env2 os2 → S0 b g2 h2 σ2 env2 os2) →
    S0 c g' h' σ' (f env') os' → (∀ env2 os2 g2 h2 σ2, I (n + 1) env2 os2 → S0 c g2 h2 σ2 env2 os2 → N σ2 h2) → tb { D with nx := N, ct := N, bk := D.nx } σ' h'
theorem turn1_go (hg : TgtF (K := K) gt ws f) {n : Nat} {x : α} {env' : Env K} {os' : Os} {g' h' : Hp} {σ' : L2.St} {v : V} {N : L2.St → Hp → Prop} (hs : Turn1 b D tb I n (fun e => f e x)) (hI : I n env' os') (s' : S0 b g' h' σ' env' os') (r : iα.R g' v x)
    (hN : ∀ env2 os2 g2 h2 σ2, Same g' g2 → I (n + 1) env2 os2 → S0 b g2 h2 σ2 env2 os2 → N σ2 h2) : gt v σ' h' fun σ2 h2 => tb { D with nx := N, ct := N, bk := D.nx } σ2 h2 :=
  hg s'.enter r fun σ2 _ s2 => hs (b.at g') rfl env' os' g' h' σ2 N hI (fun s3 => s'.leave s3) s2 fun env2 os2 g2 h2 σ2 hI2 s2 => hN env2 os2 g2 h2 σ2 s2.gg hI2 (s'.leave s2)
theorem st_for_list {xs : List α} (hg : TgtF (K := K) gt ws f) (s : S0 b g h σ env os) (e : Ev te env os xs) (I : Nat → Env K → Os → Prop) (h0 : I 0 env os)
    (hs : ∀ n x, xs[n]? = some x → Turn1 b D tb I n (fun e => f e x)) (hd : ∀ env' os' g' h' σ', I xs.length env' os' → S0 b g' h' σ' env' os' → D.nx σ' h') : tFor (iList K te) gt tb D σ h := by
  refine e s fun v g1 h1 l1 r1 => ?_
  obtain ⟨a, vs, rfl, hq, hp⟩ := r1
  refine ⟨a, rfl, ⟨vs, l1.gh.seq hq⟩, for_list (K := K) (a := a) (xs := vs) (fun n σ' h' => ∃ g' env' os', Same g1 g' ∧ I n env' os' ∧ S0 b g' h' σ' env' os') ⟨g1, env, os, Same.refl _, h0, s.le l1⟩ (fun n σ' h' _ ⟨g', _, _, e1, _, s'⟩ => (e1.trans s'.gh).seq hq) ?_ ?_⟩
  · rintro n x σ' h' hx ⟨g', env', os', e1, hI, s'⟩
    obtain ⟨y, hy, ry⟩ := paired_getL hp hx
    exact turn1_go hg (hs n y hy) hI s' (iα.mono e1 ry) fun env2 os2 g2 h2 σ2 e2 hI2 s2 => ⟨g2, env2, os2, e1.trans e2, hI2, s2⟩
  · rintro σ' h' ⟨g', env', os', e1, hI, s'⟩
    rw [hp.length] at hI
    exact hd env' os' g' h' σ' hI s'
theorem st_for_tup {xs : Tup α} (hg : TgtF (K := K) gt ws f) (s : S0 b g h σ env os) (e : Ev te env os xs) (I : Nat → Env K → Os → Prop) (h0 : I 0 env os)
    (hs : ∀ n x, xs.l[n]? = some x → Turn1 b D tb I n (fun e => f e x)) (hd : ∀ env' os' g' h' σ', I xs.l.length env' os' → S0 b g' h' σ' env' os' → D.nx σ' h') : tFor (iTup K te) gt tb D σ h := by
  refine e s fun v g1 h1 l1 r1 => ?_
  obtain ⟨a, vs, rfl, hq, hp⟩ := r1
  refine ⟨a, rfl, ⟨vs, same_tup l1.gh hq⟩, for_tup (K := K) (a := a) (xs := vs) (fun n σ' h' => ∃ g' env' os', Same g1 g' ∧ I n env' os' ∧ S0 b g' h' σ' env' os') ⟨g1, env, os, Same.refl _, h0, s.le l1⟩ (fun n σ' h' _ ⟨g', _, _, e1, _, s'⟩ => same_tup (e1.trans s'.gh) hq) ?_ ?_⟩
  · rintro n x σ' h' hx ⟨g', env', os', e1, hI, s'⟩
    obtain ⟨y, hy, ry⟩ := paired_getL hp hx
    exact turn1_go hg (hs n y hy) hI s' (iα.mono e1 ry) fun env2 os2 g2 h2 σ2 e2 hI2 s2 => ⟨g2, env2, os2, e1.trans e2, hI2, s2⟩
  · rintro σ' h' ⟨g', env', os', e1, hI, s'⟩
    rw [hp.length] at hI
    exact hd env' os' g' h' σ' hI s'
theorem st_for_range {n : Int} (s : S0 b g h σ env os) (e : Ev te env os n) (hn : n < 2 ^ 62) (hn0 : -(2 ^ 62) ≤ n) (I : Nat → Env K → Os → Prop) (h0 : I 0 env os)
    (hs : ∀ m : Nat, m < n.toNat → Turn1 b D tb I m (fun e => e.set j (sv ((m : Nat) : Int)))) (hd : ∀ env' os' g' h' σ', I n.toNat env' os' → S0 b g' h' σ' env' os' → D.nx σ' h') : tFor (iRng1 (tCons te tNil)) (gName j) tb D σ h := by
  refine e s fun v g1 h1 l1 r1 => ?_
  cases r1
  refine ⟨n, rfl, hn0, hn, for_range (lo := 0) (n := n.toNat) (fun n σ' h' => ∃ g' env' os', I n env' os' ∧ S0 b g' h' σ' env' os') ⟨g1, env, os, h0, s.le l1⟩ ?_ ?_⟩
  · rintro m σ' h' hm ⟨g', env', os', hI, s'⟩
    exact turn1_go (tgt_name (α := Int)) (hs m hm) hI s' (by show V.int (0 + (m : Int)) = V.int (m : Int); rw [Int.zero_add]) fun env2 os2 g2 h2 σ2 e2 hI2 s2 => ⟨g2, env2, os2, hI2, s2⟩
  · rintro σ' h' ⟨g', env', os', hI, s'⟩
    exact hd env' os' g' h' σ' hI s'
theorem st_for_range2 {m n : Int} {te' : TE} (s : S0 b g h σ env os) (e' : Ev te' env os m) (e : Ev te env os n) (hb : -(2 ^ 62) ≤ m ∧ m < 2 ^ 62 ∧ -(2 ^ 62) ≤ n ∧ n < 2 ^ 62) (I : Nat → Env K → Os → Prop) (h0 : I 0 env os)
    (hs : ∀ k : Nat, k < (n - m).toNat → Turn1 b D tb I k (fun e => e.set j (sv (m + (k : Int))))) (hd : ∀ env' os' g' h' σ', I (n - m).toNat env' os' → S0 b g' h' σ' env' os' → D.nx σ' h') : tFor (iRng2 (tCons te' (tCons te tNil))) (gName j) tb D σ h := by
  refine e' s fun v g1 h1 l1 r1 => e (s.le l1) fun w g2 h2 l2 r2 => ?_
  cases r1; cases r2
  refine ⟨m, n, rfl, hb, for_range (lo := m) (n := (n - m).toNat) (fun n σ' h' => ∃ g' env' os', I n env' os' ∧ S0 b g' h' σ' env' os') ⟨g2, env, os, h0, (s.le l1).le l2⟩ ?_ ?_⟩
  · rintro k σ' h' hk ⟨g', env', os', hI, s'⟩
    exact turn1_go (tgt_name (α := Int)) (hs k hk) hI s' rfl fun env2 os2 g2 h2 σ2 e2 hI2 s2 => ⟨g2, env2, os2, hI2, s2⟩
  · rintro σ' h' ⟨g', env', os', hI, s'⟩
    exact hd env' os' g' h' σ' hI s'
end
/-- while: I with its measure m; from I the test gives c, then the body or the end -/
theorem st_while {tc : TT} {tb : TS} (s : S0 b g h σ env os) (I : Nat → Env K → Os → Prop) (m0 : Nat) (h0 : I m0 env os)
    (hs : ∀ m env' os' g' h' σ', I m env' os' → S0 b g' h' σ' env' os' → ∃ c, EvT tc env' os' c ∧
      (c = true → ∀ g2 h2 (N : L2.St → Hp → Prop), S0 b g2 h2 σ' env' os' → (∀ m3 env3 os3 g3 h3 σ3, m3 < m → I m3 env3 os3 → S0 b g3 h3 σ3 env3 os3 → N σ3 h3) → tb { D with nx := N, ct := N, bk := D.nx } σ' h2) ∧
      (c = false → ∀ g2 h2, S0 b g2 h2 σ' env' os' → D.nx σ' h2)) : tWhile tc tb D σ h := by
  refine ⟨fun m σ h => ∃ g env os, I m env os ∧ S0 b g h σ env os, ⟨m0, g, env, os, h0, s⟩, ?_⟩
  rintro m σ' h' ⟨g', env', os', hI, s'⟩
  obtain ⟨c, e, k1, k2⟩ := hs m env' os' g' h' σ' hI s'
  refine e s' fun g2 h2 l => ?_
  cases c with
  | true => exact ⟨fun σ h => ∃ m', m' < m ∧ ∃ g env os, I m' env os ∧ S0 b g h σ env os, fun σ3 h3 ⟨m', hm, q⟩ => ⟨m', hm, q⟩, k1 rfl g2 h2 _ (s'.le l) fun m3 env3 os3 g3 h3 σ3 hm hI3 s3 => ⟨m3, hm, g3, env3, os3, hI3, s3⟩⟩
  | false => exact k2 rfl g2 h2 (s'.le l)

/-! ### owned lists -/
def Own.lst (K : PySem.W.Frag) {α : Type} [i : Py K α] (xs : List α) : Own := ⟨fun g o => ∃ vs, o = .lst vs ∧ Paired (i.R g) vs xs, fun {g g' o} e ⟨vs, h1, h2⟩ => ⟨vs, h1, pr_mono e h2⟩⟩
/-- x = [..], the list to be changed later -/
theorem st_new {xs : List α} {tl : TA} (s : S0 b g h σ env os) (e : EvL tl env os xs) (hl : xs.length ≤ 100000) (k : ∀ l g' h', S0 b g' h' (σ.set i (some (.ref l))) (env.set i (sv (V.ref l))) (os ++ [(l, Own.lst K xs)]) → D.nx (σ.set i (some (.ref l))) h') : tAsg (tLst tl) (gName i) D σ h :=
  e s fun vs g1 h1 l1 r1 => ⟨by rw [r1.length]; exact Nat.le_trans hl (by decide), fun p hp => k p g1 _ (((s.le l1).add (w := Own.lst K xs) hp ⟨vs, rfl, r1⟩).set ⟨_, rfl, rfl⟩)⟩
/-- x = e, e's value a new list of xs (by a display, a slice, list(), a comprehension ..), to be changed later: it must be new -/
def EvN (te : TE) (env : Env K) (os : Os) (xs : List α) : Prop :=
  ∀ {b : Bs} {g h : Hp} {σ : L2.St} {Q : VK}, S0 b g h σ env os → (∀ l vs g' h', Le g h g' h' → h' l = none → Paired (iα.R g') vs xs → Q (.ref l) (upd h' l (.lst vs))) → te σ h Q
theorem en_lst {xs : List α} {tl : TA} (e : EvL tl env os xs) (hl : xs.length ≤ 100000) : EvN (tLst tl) env os xs := fun {b g h σ Q} s q =>
  e s fun vs g1 h1 l1 r1 => ⟨by rw [r1.length]; exact Nat.le_trans hl (by decide), fun p hp => q p vs g1 h1 l1 hp r1⟩
theorem en_listL {xs : List α} (ha : Ev ta env os xs) : EvN (tCB (fun xs H Q => ∃ p ys, xs = [V.ref p] ∧ (SqL K H p ys ∨ SqT K H p ys) ∧ ∀ l, H l = none → Q (.ref l) (upd H l (.lst ys))) (tCons ta tNil)) env os xs := fun {b g h σ Q} s q =>
  ha s fun v g1 h1 l1 r1 => by
    obtain ⟨a, vs, rfl, h2, h3⟩ := r1
    exact ⟨a, vs, rfl, .inl (l1.gh.seq h2), fun l hl => q l vs g1 h1 l1 hl h3⟩
theorem en_listT {xs : Tup α} (ha : Ev ta env os xs) : EvN (tCB (fun xs H Q => ∃ p ys, xs = [V.ref p] ∧ (SqL K H p ys ∨ SqT K H p ys) ∧ ∀ l, H l = none → Q (.ref l) (upd H l (.lst ys))) (tCons ta tNil)) env os xs.l := fun {b g h σ Q} s q =>
  ha s fun v g1 h1 l1 r1 => by
    obtain ⟨a, vs, rfl, h2, h3⟩ := r1
    exact ⟨a, vs, rfl, .inr (same_tup l1.gh h2), fun l hl => q l vs g1 h1 l1 hl h3⟩
theorem st_setN {xs : List α} (s : S0 b g h σ env os) (e : EvN te env os xs) (k : ∀ l g' h', S0 b g' h' (σ.set i (some (.ref l))) (env.set i (sv (V.ref l))) (os ++ [(l, Own.lst K xs)]) → D.nx (σ.set i (some (.ref l))) h') : tAsg te (gName i) D σ h :=
  e s fun l vs g1 h1 l1 hl r1 => k l g1 _ (((s.le l1).add (w := Own.lst K xs) hl ⟨vs, rfl, r1⟩).set ⟨_, rfl, rfl⟩)
/-- x.append(e) -/
theorem st_append {m : Nat} {l : Addr} {xs : List α} {x : α} (s : S0 b g h σ env os) (hx : env[i]? = some (.val V inferInstance (V.ref l))) (ho : os[m]? = some (l, Own.lst K xs)) (hl : xs.length < sizeLine) (e : Ev te env os x)
    (k : ∀ g' h', S0 b g' h' σ env (os.set m (l, Own.lst K (xs ++ [x]))) → D.nx σ h') : tDrop (tBM K "list" rAppend (tVar i) (tCons te tNil)) D σ h := by
  unfold tDrop tBM
  refine ev_var hx s fun v g1 h1 l1 r1 => ?_
  cases r1
  have s1 := s.le l1
  obtain ⟨n1, o, e1, vs, rfl, p1⟩ := s1.own _ (List.mem_of_getElem? ho)
  refine ⟨.inl ⟨rfl, vs, SqL.of e1⟩, e s1 fun v g2 h2 l2 r2 => ?_⟩
  have s2 := s1.le l2
  obtain ⟨n2, o, e2, ws, rfl, p2⟩ := s2.own _ (List.mem_of_getElem? ho)
  exact ⟨l, ws, v, rfl, rfl, e2, by rw [p2.length]; exact hl, k g2 _ (s2.put (w' := Own.lst K (xs ++ [x])) ho ⟨_, rfl, paired_append p2 (.cons r2 .nil)⟩)⟩
/-- an owned list is looked at -/
theorem own_seq {m : Nat} {l : Addr} {xs : List α} (s : S0 b g h σ env os) (ho : os[m]? = some (l, Own.lst K xs)) : ∃ vs, h l = some (.lst vs) ∧ Paired (iα.R g) vs xs := by
  obtain ⟨n1, o, e1, vs, rfl, p1⟩ := s.own _ (List.mem_of_getElem? ho)
  exact ⟨vs, e1, p1⟩
theorem ev_lenO {m : Nat} {l : Addr} {xs : List α} (hx : env[i]? = some (.val V inferInstance (V.ref l))) (ho : os[m]? = some (l, Own.lst K xs)) : Ev (tCB (fun xs H Q => ∃ p ys, xs = [V.ref p] ∧ (SqL K H p ys ∨ SqT K H p ys) ∧ Q (.int ys.length) H) (tCons (tVar i) tNil)) env os (xs.length : Int) := fun {b g h σ Q} s q =>
  ev_var hx s fun v g1 h1 l1 r1 => by
    cases r1
    obtain ⟨vs, e, p⟩ := own_seq (s.le l1) ho
    exact ⟨l, vs, rfl, .inl (SqL.of e), q _ _ _ l1 (by rw [p.length]; rfl)⟩
theorem ev_ixO {m : Nat} {l : Addr} {xs : List α} {x : α} {n : Int} (hx : env[i]? = some (.val V inferInstance (V.ref l))) (ho : os[m]? = some (l, Own.lst K xs)) (hb : Ev tb env os n) (hn : atI xs n = some x) : Ev (tOp (rIxL K) (tVar i) tb) env os x := fun {b g h σ Q} s q =>
  ev_var hx s fun v g1 h1 l1 r1 => hb (s.le l1) fun w g2 h2 l2 r2 => by
    cases r1
    obtain ⟨vs, e, p⟩ := own_seq ((s.le l1).le l2) ho
    obtain ⟨v, e', r⟩ := atI_map p hn
    exact ⟨l, vs, n, v, rfl, r2, SqL.of e, e', q _ _ _ (l1.trans l2) r⟩
theorem ev_sumO {m : Nat} {l : Addr} {xs : List Int} (hx : env[i]? = some (.val V inferInstance (V.ref l))) (ho : os[m]? = some (l, Own.lst K xs)) : Ev (tCB (rSum K) (tCons (tVar i) tNil)) env os xs.sum := fun {b g h σ Q} s q =>
  ev_var hx s fun v g1 h1 l1 r1 => by
    cases r1
    obtain ⟨vs, e, p⟩ := own_seq (s.le l1) ho
    refine ⟨l, xs, rfl, ?_, q _ _ _ l1 rfl⟩
    rw [← paired_eq p]
    exact SqL.of e
theorem ev_tupleO {m : Nat} {l : Addr} {xs : List α} (hx : env[i]? = some (.val V inferInstance (V.ref l))) (ho : os[m]? = some (l, Own.lst K xs)) : Ev (tCB (fun xs H Q => ∃ p ys, xs = [V.ref p] ∧ ((SqL K H p ys ∧ ∀ l, H l = none → Q (.ref l) (upd H l (.tup ys))) ∨ (SqT K H p ys ∧ Q (.ref p) H))) (tCons (tVar i) tNil)) env os (Tup.mk xs) := fun {b g h σ Q} s q =>
  ev_var hx s fun v g1 h1 l1 r1 => by
    cases r1
    obtain ⟨vs, e, p⟩ := own_seq (s.le l1) ho
    exact ⟨l, vs, rfl, .inl ⟨SqL.of e, fun t ht => q _ (upd g1 t (.tup vs)) _ (l1.trans (Le.laid l1.gh ht)) ⟨t, vs, rfl, upd_same, pr_mono (Le.laid l1.gh ht).gg p⟩⟩⟩
theorem ixN_eq {n : Nat} {k : Int} (h0 : 0 ≤ k) (h1 : k < n) : ixN n k = some k.toNat := by unfold ixN; rw [if_pos h0, if_pos h1]
/-- x[k] = e on an owned list -/
theorem st_setO {m : Nat} {l : Addr} {xs : List α} {x : α} {n : Int} (s : S0 b g h σ env os) (e : Ev te env os x) (hx : env[i]? = some (.val V inferInstance (V.ref l))) (ho : os[m]? = some (l, Own.lst K xs)) (hb : Ev tb env os n) (h0 : 0 ≤ n) (h1 : n < xs.length)
    (k : ∀ g' h', S0 b g' h' σ env (os.set m (l, Own.lst K (xs.set n.toNat x))) → D.nx σ h') : tAsg te (gSub (tVar i) tb rSetL) D σ h :=
  e s fun v g1 h1' l1 r1 => ev_var hx (s.le l1) fun w g2 h2 l2 r2 => hb ((s.le l1).le l2) fun u g3 h3 l3 r3 => by
    cases r2
    have s3 := ((s.le l1).le l2).le l3
    obtain ⟨vs, e', p⟩ := own_seq s3 ho
    exact ⟨l, vs, n, n.toNat, rfl, r3, e', ixN_eq h0 (by rw [p.length]; exact h1), k g3 _ (s3.put (w' := Own.lst K (xs.set n.toNat x)) ho ⟨_, rfl, paired_set (iα.mono (l2.gg.trans l3.gg) r1) _ p⟩)⟩

/-- the list that a name owns is changed no more: it becomes a value -/
theorem S0.freeze {m : Nat} {l : Addr} {xs : List α} (s : S0 b g h σ env os) (hx : env[i]? = some (.val V inferInstance (V.ref l))) (ho : os[m]? = some (l, Own.lst K xs)) (hb : b.ls = []) : ∃ g', S0 b g' h σ (env.set i (sv xs)) (os.eraseIdx m) := by
  obtain ⟨n1, o, e1, vs, rfl, p1⟩ := s.own _ (List.mem_of_getElem? ho)
  have hm := List.mem_of_getElem? ho
  have nb : b.h l = none := by
    rcases s.ol _ hm with z | z
    · exact z
    · rw [hb] at z; cases z
  have lg : Same g (upd g l (.lst vs)) := fun c u q => by rw [upd_ne (ne_of_none q n1)]; exact q
  have nin : ∀ p ∈ os.eraseIdx m, p ∈ os ∧ p.1 ≠ l := fun p hp => by
    obtain ⟨j, hj, hjm⟩ := List.mem_eraseIdx_iff_getElem?.mp hp
    refine ⟨List.mem_of_getElem? hjm, fun z => ?_⟩
    have a1 : (os.map (·.1))[j]? = some l := by rw [List.getElem?_map, hjm]; exact congrArg some z
    have a2 : (os.map (·.1))[m]? = some l := by rw [List.getElem?_map, ho]; rfl
    exact hj ((List.getElem?_inj (by rw [List.length_map]; exact (List.getElem?_eq_some_iff.mp hjm).1) s.nd).mp (a1.trans a2.symm))
  refine ⟨upd g l (.lst vs), fun c u q => ?_, by rw [List.length_set]; exact s.len, fun n t e => ?_, fun p hp => ?_, ?_, s.gg.trans lg, s.fr, s.th, fun a n m => ?_, fun p hp => s.ol p (nin p hp).1⟩
  · by_cases hc : c = l
    · subst hc; rw [upd_same] at q; cases q; exact e1
    · rw [upd_ne hc] at q; exact s.gh _ _ q
  · by_cases hn : i = n
    · subst hn
      have hl : i < env.length := (List.getElem?_eq_some_iff.mp hx).1
      rw [List.getElem?_set_self hl] at e
      cases e
      obtain ⟨v, q1, q2⟩ := s.sl i _ hx
      cases q2
      exact ⟨_, q1, l, vs, rfl, .inl (.inl upd_same), pr_mono lg p1⟩
    · rw [List.getElem?_set_ne hn] at e
      exact Slot.ok_mono lg (s.sl n t e)
  · obtain ⟨hp1, hp2⟩ := nin p hp
    obtain ⟨n2, o2, e2, q2⟩ := s.own p hp1
    exact ⟨by rw [upd_ne hp2]; exact n2, o2, e2, p.2.mono lg q2⟩
  · have : ((os.eraseIdx m).map (·.1)).Sublist (os.map (·.1)) := (List.eraseIdx_sublist os m).map _
    exact this.nodup s.nd
  · rw [upd_ne (fun z => by rw [z, nb] at m; exact m rfl)]
    exact s.new a n m
end
end Lw
/-! Comprehensions; the promises of defs; calls. -/
namespace Lw
open PySem PySem.Spec PyProof.Rows L2
section
variable {K : PySem.W.Frag} {env : Env K} {os : Os} {ta tb te tx tl : TE} {t u tt : TT} {α β γ : Type} [iα : Py K α] [iβ : Py K β] [iγ : Py K γ]
variable {b : Bs} {g h : Hp} {σ : L2.St} {D : Ends} {t1 t2 : TS} {i j : Nat}

/-! ### comprehensions -/
theorem et_yes : EvT tYes env os true := fun {b g h σ Q} s q => q g h (Le.refl s.gh)
abbrev wiped (env : Env K) (vs : List Nat) : Env K := vs.foldr (fun v e => List.set e v Slot.unk) env
theorem S0.wipe {vs : List Nat} (s : S0 b g h σ env os) : S0 b g h (L2.wipe σ vs) (wiped env vs) os := by
  induction vs with
  | nil => exact s
  | cons v vs ih =>
    show S0 b g h ((L2.wipe σ vs).set v none) ((wiped env vs).set v Slot.unk) os
    refine { ih with len := by rw [List.length_set, List.length_set]; exact ih.len, sl := fun n t e => ?_ }
    by_cases hn : v = n
    · subst hn
      have hl : v < (wiped env vs).length := by
        have := (List.getElem?_eq_some_iff.mp e).1
        rwa [List.length_set] at this
      rw [List.getElem?_set_self hl] at e
      cases e
      trivial
    · rw [List.getElem?_set_ne hn] at e ⊢
      exact ih.sl n t e
theorem S0.drop {os' : Os} (s : S0 b g h σ env (os ++ os')) : S0 b g h σ env os :=
  { s with
    own := fun p hp => s.own p (List.mem_append_left _ hp)
    nd := by have := s.nd; rw [List.map_append] at this; exact (List.nodup_append.mp this).1
    ol := fun p hp => s.ol p (List.mem_append_left _ hp) }
/-- what a comprehension's block keeps: the new list D holds the items made so far -/
structure LcI (K : PySem.W.Frag) {β : Type} [iβ : Py K β] (env : Env K) (os : Os) (b : Bs) (ga ha : Hp) (σ : L2.St) (vs : List Nat) (D : Addr) (acc : List β) (H : Hp) : Prop where
  ex : ∃ g', S0 b g' H (L2.wipe σ vs) (wiped env vs) (os ++ [(D, Own.lst K acc)]) ∧ Same ga g' ∧ (∀ a, ga a = none → ha a ≠ none → g' a = none)
  hh : ∀ a o, ha a = some o → H a = some o
  dn : ha D = none
theorem LcI.start {ga ha : Hp} {Dd : Addr} (s : S0 b ga ha σ env os) (hd : ha Dd = none) (vs : List Nat) : LcI K (β := β) env os b ga ha σ vs Dd [] (upd ha Dd (.lst [])) where
  ex := ⟨ga, (s.wipe.add (w := Own.lst K ([] : List β)) hd ⟨[], rfl, .nil⟩), Same.refl _, fun _ n _ => n⟩
  hh := fun a o q => by rw [upd_ne (ne_of_none q hd)]; exact q
  dn := hd
theorem last_at {p : Addr × Own} : (os ++ [p])[os.length]? = some p := by simp
theorem last_set {p q : Addr × Own} : (os ++ [p]).set os.length q = os ++ [q] := by simp
/-- the end: all but D's own list is as a pure step leaves it -/
theorem LcI.done {ga ha H : Hp} {vs : List Nat} {Dd : Addr} {acc : List β} {Q : VK} (I : LcI K env os b ga ha σ vs Dd acc H) (q : ∀ l ws g' h', Le ga ha g' h' → h' l = none → Paired (iβ.R g') ws acc → Q (.ref l) (upd h' l (.lst ws))) : Q (.ref Dd) H := by
  obtain ⟨g', s, e1, e2⟩ := I.ex
  obtain ⟨nD, o, eD, ws, rfl, p⟩ := s.own (Dd, Own.lst K acc) (by simp)
  have hH : H = upd (fun a => if a = Dd then none else H a) Dd (.lst ws) := by
    funext a
    by_cases ha' : a = Dd
    · subst ha'; rw [upd_same]; exact eD
    · rw [upd_ne ha']; exact (if_neg ha').symm
  rw [hH]
  refine q Dd ws g' _ ⟨e1, fun a o z => ?_, fun a o z => ?_, e2⟩ (if_pos rfl) p
  · have : a ≠ Dd := ne_of_none z I.dn
    show (if a = Dd then none else H a) = some o
    rw [if_neg this]; exact I.hh a o z
  · have : a ≠ Dd := fun w => by rw [w, show g' Dd = none from nD] at z; cases z
    show (if a = Dd then none else H a) = some o
    rw [if_neg this]; exact s.gh a o z
/-- one turn -/
theorem LcI.turn {ga ha H : Hp} {vs : List Nat} {Dd : Addr} {acc : List β} {gt : TG} {f : Env K → α → Env K} {v : V} {x : α} {c : Bool} {y : β} {Nx : Hp → Prop} (I : LcI K env os b ga ha σ vs Dd acc H) (hg : TgtF (K := K) gt vs f)
    (rx : ∀ g', Same ga g' → iα.R g' v x) (ht : EvT tt (f (wiped env vs) x) os c) (he : c = true → Ev te (f (wiped env vs) x) os y) (hl : acc.length < sizeLine) (hw : L2.wipe (L2.wipe σ vs) vs = L2.wipe σ vs)
    (hN : ∀ H', LcI K env os b ga ha σ vs Dd (if c = true then acc ++ [y] else acc) H' → Nx H') :
    gt v (L2.wipe σ vs) H fun σ2 H2 => L2.wipe σ2 vs = L2.wipe σ vs ∧ tt σ2 H2 fun b H3 => if b = true then te σ2 H3 fun y H4 => ∃ acc, H4 Dd = some (.lst acc) ∧ acc.length < sizeLine ∧ Nx (upd H4 Dd (.lst (acc ++ [y]))) else Nx H3 := by
  obtain ⟨g', s, e1, e2⟩ := I.ex
  refine hg s.drop (rx g' e1) fun σ2 w2 s2 => ⟨w2.trans hw, ht s2 fun g3 h3 l3 => ?_⟩
  have hh3 : ∀ a o, ha a = some o → h3 a = some o := fun a o z => l3.hh a o (I.hh a o z)
  have new3 : ∀ a, ga a = none → ha a ≠ none → g3 a = none := fun a n m => l3.new a (e2 a n m) (sameNe I.hh m)
  cases c with
  | false => exact hN h3 ⟨⟨g3, s.le l3, e1.trans l3.gg, new3⟩, hh3, I.dn⟩
  | true =>
    refine he rfl (s2.le l3) fun w g4 h4 l4 r4 => ?_
    have s4 := (s.le l3).le l4
    obtain ⟨nD, o, eD, ws, rfl, p⟩ := s4.own (Dd, Own.lst K acc) (by simp)
    refine ⟨ws, eD, by rw [p.length]; exact hl, hN _ ⟨⟨g4, ?_, (e1.trans l3.gg).trans l4.gg, fun a n m => l4.new a (new3 a n m) (sameNe hh3 m)⟩, fun a o z => ?_, I.dn⟩⟩
    · have := s4.put (w' := Own.lst K (acc ++ [y])) (o := .lst (ws ++ [w])) last_at ⟨_, rfl, paired_append p (.cons r4 .nil)⟩
      rw [last_set] at this
      exact this
    · rw [upd_ne (ne_of_none z I.dn)]; exact l4.hh a o (hh3 a o z)
theorem filter_take {p : α → Bool} {f : α → β} {xs : List α} {n : Nat} {x : α} (h : xs[n]? = some x) : ((xs.take (n + 1)).filter p).map f = if p x = true then ((xs.take n).filter p).map f ++ [f x] else ((xs.take n).filter p).map f := by
  rw [List.take_add_one, h, List.filter_append, List.map_append]
  cases hp : p x <;> simp [hp]
theorem wipe_wipe {vs : List Nat} : L2.wipe (L2.wipe σ vs) vs = L2.wipe σ vs := by
  have key : ∀ (ws : List Nat) (τ : L2.St), (∀ v ∈ ws, τ.set v none = τ) → L2.wipe τ ws = τ := by
    intro ws
    induction ws with
    | nil => intro τ _; rfl
    | cons w ws ih =>
      intro τ hτ
      show (L2.wipe τ ws).set w none = τ
      rw [ih τ fun v hv => hτ v (List.mem_cons_of_mem _ hv)]
      exact hτ w List.mem_cons_self
  refine key vs _ fun v hv => ?_
  induction vs with
  | nil => cases hv
  | cons w ws ih =>
    show ((L2.wipe σ ws).set w none).set v none = (L2.wipe σ ws).set w none
    by_cases hvw : v = w
    · subst hvw; rw [List.set_set]
    · rw [List.set_comm none none (Ne.symm hvw), ih ((List.mem_cons.mp hv).resolve_left hvw)]
/-- [e for target in a list of xs if ..] -/
theorem en_lcL {xs : List α} {vs : List Nat} {gt : TG} {f : Env K → α → Env K} {p : α → Bool} {m : α → β} (hg : TgtF (K := K) gt vs f) (hx : Ev tl env os xs) (ht : ∀ x ∈ xs, EvT tt (f (wiped env vs) x) os (p x))
    (he : ∀ x ∈ xs, p x = true → Ev te (f (wiped env vs) x) os (m x)) (hl : xs.length ≤ 1000000) : EvN (tLc (iList K tl) gt tt te vs) env os ((xs.filter p).map m) := fun {b g h σ Q} s q => by
  refine hx s fun v g1 h1 l1 r1 => ?_
  obtain ⟨a, us, rfl, hq, hp⟩ := r1
  refine ⟨a, rfl, ⟨us, l1.gh.seq hq⟩, fun Dd hD => lc_list (K := K) (a := a) (xs := us) (fun n H => LcI K env os b g1 h1 σ vs Dd (((xs.take n).filter p).map m) H) (LcI.start (s.le l1) hD vs) (fun n H _ I => ?_) (fun n x H hn I => ?_) (fun H I => ?_)⟩
  · obtain ⟨g', s', e1, _⟩ := I.ex
    exact (e1.trans s'.gh).seq hq
  · obtain ⟨y, hy, ry⟩ := paired_getL hp hn
    have hm := List.mem_of_getElem? hy
    refine I.turn hg (fun g' e => iα.mono e ry) (ht y hm) (he y hm) ?_ wipe_wipe fun H' I' => by rw [filter_take hy]; exact I'
    refine Nat.lt_of_le_of_lt (Nat.le_trans (by rw [List.length_map]; exact List.length_filter_le _ _) (List.length_take_le _ _)) ?_
    exact Nat.lt_of_le_of_lt (by
      have := (List.getElem?_eq_some_iff.mp hy).1
      omega) (by decide : 1000000 < sizeLine)
  · rw [hp.length, List.take_length] at I
    exact I.done fun l ws g' h' le hn' pr => q l ws g' h' (l1.trans le) hn' pr
theorem en_lcT {xs : Tup α} {vs : List Nat} {gt : TG} {f : Env K → α → Env K} {p : α → Bool} {m : α → β} (hg : TgtF (K := K) gt vs f) (hx : Ev tl env os xs) (ht : ∀ x ∈ xs.l, EvT tt (f (wiped env vs) x) os (p x))
    (he : ∀ x ∈ xs.l, p x = true → Ev te (f (wiped env vs) x) os (m x)) (hl : xs.l.length ≤ 1000000) : EvN (tLc (iTup K tl) gt tt te vs) env os ((xs.l.filter p).map m) := fun {b g h σ Q} s q => by
  refine hx s fun v g1 h1 l1 r1 => ?_
  obtain ⟨a, us, rfl, hq, hp⟩ := r1
  refine ⟨a, rfl, ⟨us, same_tup l1.gh hq⟩, fun Dd hD => lc_tup (K := K) (a := a) (xs := us) (fun n H => LcI K env os b g1 h1 σ vs Dd (((xs.l.take n).filter p).map m) H) (LcI.start (s.le l1) hD vs) (fun n H _ I => ?_) (fun n x H hn I => ?_) (fun H I => ?_)⟩
  · obtain ⟨g', s', e1, _⟩ := I.ex
    exact same_tup (e1.trans s'.gh) hq
  · obtain ⟨y, hy, ry⟩ := paired_getL hp hn
    have hm := List.mem_of_getElem? hy
    refine I.turn hg (fun g' e => iα.mono e ry) (ht y hm) (he y hm) ?_ wipe_wipe fun H' I' => by rw [filter_take hy]; exact I'
    refine Nat.lt_of_le_of_lt (Nat.le_trans (by rw [List.length_map]; exact List.length_filter_le _ _) (List.length_take_le _ _)) ?_
    exact Nat.lt_of_le_of_lt (by
      have := (List.getElem?_eq_some_iff.mp hy).1
      omega) (by decide : 1000000 < sizeLine)
  · rw [hp.length, List.take_length] at I
    exact I.done fun l ws g' h' le hn' pr => q l ws g' h' (l1.trans le) hn' pr
/-- the upto from 0 to n - 1 -/
def upto (n : Nat) : List Int := (List.range n).map fun (k : Nat) => (k : Int)
theorem upto_get {n k : Nat} (h : k < n) : (upto n)[k]? = some (k : Int) := by unfold upto; rw [List.getElem?_map, List.getElem?_range h]; rfl
theorem upto_len {n : Nat} : (upto n).length = n := by unfold upto; simp
theorem mem_upto {n : Nat} {x : Int} : x ∈ upto n ↔ 0 ≤ x ∧ x < n := by
  unfold upto
  rw [List.mem_map]
  constructor
  · rintro ⟨k, hk, rfl⟩
    rw [List.mem_range] at hk
    omega
  · intro ⟨h1, h2⟩
    exact ⟨x.toNat, by rw [List.mem_range]; omega, by omega⟩
/-- [e for k in range(n) if ..] -/
theorem en_lcR {n : Int} {p : Int → Bool} {m : Int → β} (hx : Ev tl env os n) (ht : ∀ x ∈ upto n.toNat, EvT tt ((wiped env [i]).set i (sv x)) os (p x))
    (he : ∀ x ∈ upto n.toNat, p x = true → Ev te ((wiped env [i]).set i (sv x)) os (m x)) (hl : n ≤ 1000000) (hl0 : -(2 ^ 62) ≤ n) : EvN (tLc (iRng1 (tCons tl tNil)) (gName i) tt te [i]) env os (((upto n.toNat).filter p).map m) := fun {b g h σ Q} s q => by
  refine hx s fun v g1 h1 l1 r1 => ?_
  cases r1
  refine ⟨n, rfl, hl0, by omega, fun Dd hD => lc_range (lo := 0) (n := n.toNat) (fun k H => LcI K env os b g1 h1 σ [i] Dd ((((upto n.toNat).take k).filter p).map m) H) (LcI.start (s.le l1) hD [i]) (fun k H hk I => ?_) (fun H I => ?_)⟩
  · have hy := upto_get hk
    have hm := List.mem_of_getElem? hy
    refine I.turn (tgt_name (α := Int)) (fun g' e => ?_) (ht _ hm) (he _ hm) ?_ wipe_wipe fun H' I' => by rw [filter_take hy]; exact I'
    · show V.int (0 + (k : Int)) = V.int (k : Int)
      rw [Int.zero_add]
    · refine Nat.lt_of_le_of_lt (Nat.le_trans (by rw [List.length_map]; exact List.length_filter_le _ _) (List.length_take_le _ _)) ?_
      exact Nat.lt_of_le_of_lt (by omega) (by decide : 1000000 < sizeLine)
  · rw [List.take_of_length_le (by rw [upto_len]; exact Nat.le_refl _)] at I
    exact I.done fun l ws g' h' le hn' pr => q l ws g' h' (l1.trans le) hn' pr
/-- a new list, taken as a value that does not change -/
theorem EvN.ev {xs : List α} (h : EvN te env os xs) : Ev te env os xs := fun {b g h' σ Q} s q => h s fun l vs g1 h1 l1 hl p =>
  q _ (upd g1 l (.lst vs)) _ (l1.trans (Le.laid l1.gh hl)) ⟨l, vs, rfl, .inl (.inl upd_same), pr_mono (Le.laid l1.gh hl).gg p⟩
theorem filter_true {xs : List α} {m : α → β} : (xs.filter fun _ => true).map m = xs.map m := by rw [List.filter_eq_self.mpr (fun _ _ => rfl)]
/-- without a test -/
theorem EvN.all {xs : List α} {m : α → β} (h : EvN te env os ((xs.filter fun _ => true).map m)) : EvN te env os (xs.map m) := by rw [filter_true] at h; exact h

/-! ### promises -/
/-- a def that changes nothing: A says which arguments it takes and what is wanted of the answer -/
def SpR (K : PySem.W.Frag) {γ : Type} [iγ : Py K γ] (A : List (Slot K) → (γ → Prop) → Prop) : Sp := fun vs H Q _ =>
  ∃ (g : Hp) (xs : List (Slot K)) (P : γ → Prop), A xs P ∧ Same g H ∧ Args g vs xs ∧ ∀ v z g' H', P z → Le g H g' H' → iγ.R g' v z → Q v H'
theorem args_len {g : Hp} {vs : List V} {xs : List (Slot K)} (h : Args g vs xs) : vs.length = xs.length := by
  induction h with
  | nil => rfl
  | cons _ _ ih => rw [List.length_cons, List.length_cons, ih]
theorem args_append {g : Hp} {vs ws : List V} {xs ys : List (Slot K)} (h : Args g vs xs) (k : Args g ws ys) : Args g (vs ++ ws) (xs ++ ys) := by
  induction h with
  | nil => exact k
  | cons r _ ih => exact .cons r ih
theorem args_get {g : Hp} {vs : List V} {xs : List (Slot K)} (h : Args g vs xs) : ∀ {n : Nat} {t : Slot K}, xs[n]? = some t → t.ok g (vs[n]?) := by
  induction h with
  | nil => intro n t e; simp at e
  | cons r _ ih =>
    intro n t e
    cases n with
    | zero => simp at e; subst e; exact r
    | succ n => exact ih (by simpa using e)
theorem S0.start {N : List Str} {vs : List V} {xs : List (Slot K)} {H : Hp} (gh : Same g H) (r : Args g vs xs) : S0 ⟨[], g, H⟩ g H (L2.start N vs) (xs ++ List.replicate (N.length - xs.length) .unk) [] where
  gh := gh
  len := by unfold L2.start; rw [List.length_append, List.length_append, List.length_map, List.length_replicate, List.length_replicate, args_len r]
  sl := fun n t e => by
    by_cases hn : n < xs.length
    · rw [List.getElem?_append_left hn] at e
      have q := args_get r e
      have : (L2.start N vs)[n]?.join = vs[n]? := by
        unfold L2.start
        rw [List.getElem?_append_left (by rw [List.length_map, args_len r]; exact hn), List.getElem?_map]
        cases vs[n]? <;> rfl
      rw [this]
      exact q
    · rw [List.getElem?_append_right (by omega)] at e
      have := List.mem_of_getElem? e
      rw [List.mem_replicate] at this
      rw [this.2]
      trivial
  own := fun p hp => by cases hp
  nd := by simp
  gg := Same.refl _
  fr := fun a o _ q => q
  th := fun a n => n
  new := fun a n _ => n
  ol := fun p hp => by cases hp
/-- a call -/
theorem ev_call {A : List (Slot K) → (γ → Prop) → Prop} {xs ds : List (Slot K)} {dvs : List V} {z : γ} {E : XK} {ta : TA} (h : EvA ta env os xs) (hA : A (xs ++ ds) (fun y => y = z)) (hd : ∀ g, Args g dvs ds := by exact fun _ => .nil) : Ev (tCall (SpR K A) dvs E ta) env os z := fun {b g h' σ Q} s q =>
  h s fun vs g1 h1 l1 r1 => ⟨g1, xs ++ ds, _, hA, l1.gh, args_append r1 (hd g1), fun v z' g2 h2 hz l2 r2 => q v g2 h2 (l1.trans l2) (hz ▸ r2)⟩
/-- .. whose answer is known in part -/
theorem s_call {A : List (Slot K) → (γ → Prop) → Prop} {xs ds : List (Slot K)} {dvs : List V} {P : γ → Prop} {E : XK} {ta : TA} {Q : VK} (s : S0 b g h σ env os) (e : EvA ta env os xs) (hA : A (xs ++ ds) P) (k : ∀ v z g' h', P z → S0 b g' h' σ env os → Same g g' → iγ.R g' v z → Q v h')
    (hd : ∀ g, Args g dvs ds := by exact fun _ => .nil) : tCall (SpR K A) dvs E ta σ h Q :=
  e s fun vs g1 h1 l1 r1 => ⟨g1, xs ++ ds, P, hA, l1.gh, args_append r1 (hd g1), fun v z g2 h2 hz l2 r2 => k v z g2 h2 hz ((s.le l1).le l2) (l1.gg.trans l2.gg) r2⟩
theorem SpR.imp {A B : List (Slot K) → (γ → Prop) → Prop} (h : ∀ xs P, B xs P → A xs P) (vs : List V) (H : Hp) (Q : VK) (E : XK) (q : SpR K B vs H Q E) : SpR K A vs H Q E :=
  let ⟨g, xs, P, a, r⟩ := q
  ⟨g, xs, P, h xs P a, r⟩
end
section
variable {P : Program} {w : World} {K : PySem.W.Frag} {mg : Str → Option Value} {base : Heap} {γ : Type} [iγ : Py K γ]
/-- a def that changes nothing keeps its promise -/
theorem okR {x qual : Str} {st : Stmt} {f : Addr} {fd : FuncData} {N ps : List Str} {k : Nat} {A : List (Slot K) → (γ → Prop) → Prop} (F : Fun K x qual st f fd) (S : FnScope N ps (defScope st)) (hlen : ∀ xs P', A xs P' → xs.length = ps.length)
    (hb : ∀ (cdv : Value) (Ar : Around) (outer : List PySem.Env) (s : Shared) (H : Hp) (E : XK), Room k (Ar.deeper (envOfC qual (defScope st) s.heap.objs.size f cdv)) → ∀ (xs : List (Slot K)) (P' : γ → Prop), A xs P' →
      ∃ t, PSs (cxOf CX0 P w K mg base N qual (defScope st) f cdv Ar outer s H E).nox (defBody st) t ∧
        ∀ (g : Hp) (σ : L2.St) (Q : VK), S0 ⟨[], g, H⟩ g H σ (xs ++ List.replicate (N.length - xs.length) .unk) [] →
          (∀ v z g' h' σ' env' os', P' z → S0 ⟨[], g, H⟩ g' h' σ' (env' : Env K) os' → iγ.R g' v z → Q v h') → t { nx := fun _ H' => Q .non H', rt := Q } σ H) : FnOk P w K mg base CX0 (k + 1) f fd ps (SpR K A) := by
  refine F.ok S (fun vs H Q E h => ?_) (fun cdv Ar outer s H vs Q E hr h => ?_)
  · obtain ⟨g, xs, P', hA, _, r, _⟩ := h
    rw [args_len r]
    exact hlen xs P' hA
  · obtain ⟨g, xs, P', hA, gh, r, q⟩ := h
    obtain ⟨t, ht, hq⟩ := hb cdv Ar outer s H E hr xs P' hA
    exact ⟨t, ht, hq g _ Q (S0.start gh r) fun v z g' h' σ' env' os' hz s' rz => q v z g' h' hz (s'.fin rfl) rz⟩
end
end Lw
/-! The text's facts behind its top; defs by their names. -/
namespace Lw
open PySem PySem.Spec PyProof.Rows L2
/-- what the head has told of the written part -/
structure Fx (fa : List He.Fa) (fn : List He.DefD) (ex : PySem.W.Frag → Bool) (K : PySem.W.Frag) (mg : Str → Option Value) : Prop where
  d : He.SaysD fa fn K
  more : ex K = true
  glo : ∀ x v, PySem.W.nsIn K mainGlobals x = some (some v) → mg x = some v
  gloN : ∀ x, PySem.W.nsIn K mainGlobals x = some none → mg x = none
theorem Fx.of {fa : List He.Fa} {fn : List He.DefD} {ex : PySem.W.Frag → Bool} {K : PySem.W.Frag} {mg : Str → Option Value} {w : World} {h h' : Heap} {ts : List He.Tab} {tf : List He.Defn} (X : K.In h) (G : h.Ns mainGlobals mg) (c : He.SaysX fa fn ts tf ex w h' K) : Fx fa fn ex K mg :=
  ⟨c.t.d, c.more, fun _ _ e => PySem.W.mg_of X G e, fun _ e => PySem.W.mg_none_of X G e⟩
/-- the def called x keeps the promise sp -/
def Cal (P : Program) (w : World) (K : PySem.W.Frag) (mg : Str → Option Value) (base : Heap) (x : Str) (k : Nat) (ps : List Str) (sp : Sp) : Prop :=
  ∃ f fd, mg x = some (.ref f) ∧ PySem.W.keepIn K (.ref f) = true ∧ Binds K fd ps [] ∧ FnOk P w K mg base CX0 k f fd ps sp
section
variable {fa : List He.Fa} {fn : List He.DefD} {ex : PySem.W.Frag → Bool} {K : PySem.W.Frag} {mg : Str → Option Value} {P : Program} {w : World} {base : Heap}
theorem Fx.free (E : Fx fa fn ex K mg) (i : Nat) {x : Str} (h : fa[i]? = some (.free x) := by rfl) : mg x = none := E.gloN _ (He.eqO_ok (E.d.fact i h))
theorem Fx.gref (E : Fx fa fn ex K mg) (i : Nat) {x : Str} (h : fa[i]? = some (.glo x) := by rfl) : mg x = some (.ref (He.ga K x)) := E.glo _ _ (He.eqO_ok (E.d.fact i h))
theorem Fx.cal (E : Fx fa fn ex K mg) (i j : Nat) {x : Str} {st : Stmt} {ps : List Str} {k : Nat} {sp : Sp} (hi : fn[i]? = some ⟨(x, none), x, x, defArgs st, defBody st, defScope st, [], []⟩) (hj : fa[j]? = some (.glo x))
    (hbi : ∀ (kV doc pm : Value) (an : Option Addr) (cdv ct : Value) (us : List Value), us.length = ps.length → bindArgs (PySem.W.fnOf x x (defArgs st) (defBody st) (defScope st) .none kV doc pm an cdv ct) ⟨us, []⟩ = pure (ps.zip us))
    (hf : ∀ f fd, FunD K x x (defArgs st) (defBody st) (defScope st) [] [] f fd → FnOk P w K mg base CX0 k f fd ps sp) : Cal P w K mg base x k ps sp := by
  obtain ⟨fd, F⟩ := E.d.def_ i hi
  exact ⟨_, fd, E.gref j hj, F.kp, F.bindsN hbi, hf _ fd F⟩
/-- a def that changes nothing -/
theorem okRD {γ : Type} [iγ : Py K γ] {x qual : Str} {st : Stmt} {f : Addr} {fd : FuncData} {N ps : List Str} {k : Nat} {A : List (Slot K) → (γ → Prop) → Prop} {dvs : List V} {kws : List (Str × V)} (F : FunD K x qual (defArgs st) (defBody st) (defScope st) dvs kws f fd) (S : FnScope N ps (defScope st)) (hlen : ∀ xs P', A xs P' → xs.length = ps.length)
    (hb : ∀ (cdv : Value) (Ar : Around) (outer : List PySem.Env) (s : Shared) (H : Hp) (E : XK), Room k (Ar.deeper (envOfC qual (defScope st) s.heap.objs.size f cdv)) → ∀ (xs : List (Slot K)) (P' : γ → Prop), A xs P' →
      ∃ t, PSs (cxOf CX0 P w K mg base N qual (defScope st) f cdv Ar outer s H E).nox (defBody st) t ∧
        ∀ (g : Hp) (σ : L2.St) (Q : VK), S0 ⟨[], g, H⟩ g H σ (xs ++ List.replicate (N.length - xs.length) .unk) [] →
          (∀ v z g' h' σ' env' os', P' z → S0 ⟨[], g, H⟩ g' h' σ' (env' : Env K) os' → iγ.R g' v z → Q v h') → t { nx := fun _ H' => Q .non H', rt := Q } σ H) : FnOk P w K mg base CX0 (k + 1) f fd ps (SpR K A) := by
  refine F.ok S (fun vs H Q E h => ?_) (fun cdv Ar outer s H vs Q E hr h => ?_)
  · obtain ⟨g, xs, P', hA, _, r, _⟩ := h
    rw [args_len r]
    exact hlen xs P' hA
  · obtain ⟨g, xs, P', hA, gh, r, q⟩ := h
    obtain ⟨t, ht, hq⟩ := hb cdv Ar outer s H E hr xs P' hA
    exact ⟨t, ht.nox, hq g _ Q (S0.start gh r) fun v z g' h' σ' env' os' hz s' rz => q v z g' h' hz (s'.fin rfl) rz⟩
end
section
variable {X : Cx} {x : Str} {k : Nat} {ps : List Str} {sp : Sp} {e : Expr} {es : List Expr} {p pos : Pos} {t : TA}
/-- a call of such a def -/
theorem pe_c (C : Cal X.prog X.w X.K X.mg X.base x k ps sp) (hr : Room k X.A) (hg : Gl X x) (ha : PA X (e :: es) t) (hdb : (x == ("__debug__" : Str)) = false := by decide)
    (he : starEach (e :: es) X.env = (false, eval e X.env) :: starEach es X.env := by rfl) (hpl : (backTo pos (starEach es X.env)).any (·.1) = false := by rfl) : PE X (.Call (.Name x p) (e :: es) [] pos) (tCall sp [] E0 t) := by
  obtain ⟨f, fd, gm, kp, bi, ok⟩ := C
  exact pe_call ok hr hg gm kp bi .nil pass0 ha hdb he hpl
end
end Lw
/-! An own exception's __init__ whose last statement is super().__init__('..'), over ValueError. -/
namespace Lw
open PySem PySem.Spec PySem.Calls PyProof.Rows L2 NdefX
/-- what the written part says of the class C behind a super(): the cell, the code, the way up -/
structure SupC (P : Program) (K : PySem.W.Frag) (C cc cda : Addr) : Prop where
  cls : OexC K C
  cell : ∃ c d s, K.lookup cc = some ⟨c, d, .cell (some (.ref C)), s⟩
  sub : PySem.W.mroIn K C (.ref C) = some true
  up : PySem.W.ks_superIn K C C "__init__" = some (some (.builtin "ValueError.__init__"))
  clean : PySem.W.nsIn K cStatics "thirdparty.any" = some none
  ve : PySem.W.subIn K (.ref C) (.type "ValueError") = some true
  code : ∃ c d vs s file tf, K.lookup cda = some ⟨c, d, .fields vs, s⟩ ∧ vs[2]? = some (.str file tf) ∧ ((P.main.file : Str) == file) = true
  top : (P.main.scope.names.lookup ("super" : Str)).isSome = false
section
variable {CX : CXT} {P : Program} {w : World} {K : PySem.W.Frag} {mg : Str → Option Value} {base : Heap} {N : List Str} {F : NF} {f : Addr} {A : Around} {outer : List PySem.Env} {s0 : Shared} {H0 : Hp} {E0 : XK}
/-- super().__init__('..') -/
theorem sup_run {C cc e : Addr} {d : Option Addr} {σ : L2.St} {H : Hp} {s : Shared} {D : Ends} {fd : FuncData} {oc : Value} {od : Option Addr} {osl : Array (Option Value)} {ar : PySem.Arg} {p0 p1 p2 p3 p4 p5 : Pos} {txt : Str} {kk : Nat}
    (T : SupC P K C cc F.c) (hcl : F.cl = [(("__class__" : Str), cc)]) (hk : F.scope.kind = .function) (hks : F.scope.names.lookup ("super" : Str) = some .globalImplicit) (hkc : F.scope.names.lookup ("__class__" : Str) = some .free) (hmg : mg "super" = none)
    (lk : K.lookup f = some ⟨oc, od, .func fd, osl⟩) (hp : (fd.params.posonlyargs ++ fd.params.args).head? = some ar) (hka : F.scope.names.lookup ar.arg = some .local) (hN : N[0]? = some ar.arg)
    (I : Inv (ncx CX P w K mg base N F f A outer s0 H0 E0) [] σ H s) (hσ : σ[0]? = some (some (.ref e))) (he : H e = some (exo e C d)) (q : D.nx σ H) {pl : Sem Bool}
    (hev : ∀ env : PySem.Env, eval (.Call (.Attribute (.Call (.Name "super" p0) [] [] p1) "__init__" p2) [.Constant (.str txt) kk p3] [] p4) env = (do
      let ov ← attributeBase (.Call (.Name "super" p0) [] [] p1) "__init__" env (eval (.Call (.Name "super" p0) [] [] p1) env)
      standAt p2.atName
      let (f, first) ← holding [ov] (getMethod ov "__init__" pl)
      callWith p4 f first (backTo p4 (starEach [.Constant (.str txt) kk p3] env)) [])) (hsw : swapsWith (.Call (.Attribute (.Call (.Name "super" p0) [] [] p1) "__init__" p2) [.Constant (.str txt) kk p3] [] p4) none p5.line (envF F f s0.heap.objs.size) = pure false) :
    PySem.wpAt (model P w) (ncx CX P w K mg base N F f A outer s0 H0 E0).A (.func F.body (envF F f s0.heap.objs.size)) (exec (.Expr (.Call (.Attribute (.Call (.Name "super" p0) [] [] p1) "__init__" p2) [.Constant (.str txt) kk p3] [] p4) p5) (envF F f s0.heap.objs.size))
      (SP (ncx CX P w K mg base N F f A outer s0 H0 E0) [] D) (ncx CX P w K mg base N F f A outer s0 H0 E0).xe s := by
  obtain ⟨cc1, cd1, cs1, hcell⟩ := T.cell
  obtain ⟨k1, k2, vs, k3, file, tf, hcode, hvs, hfile⟩ := T.code
  obtain ⟨nm, qn, N', bs, bm, sn, sub, ab, col, dd, k0, k1', k2', k3', k5, hC, hbm⟩ := T.cls.cls
  have KX := I.kIn
  have hCc : PySem.W.clsIn K C = some { name := nm, bases := bs, mro := .ref C :: bm, ns := N', qualname := qn, hasDict := true, slotNames := sn, subclasses := sub, abstract := ab, collection := col, hasDel := false } := by unfold PySem.W.clsIn; rw [hC] <;> rfl
  obtain ⟨t1, ho⟩ := exo_at I.hok he
  obtain ⟨mb, hb1, hb2⟩ := I.mod.blt
  obtain ⟨m, hns, hl⟩ := I.loc
  have hself : m ar.arg = some (.ref e) := by
    obtain ⟨u, ru, lu⟩ := hl 0 ar.arg (.ref e) hN hσ (.inl hka)
    obtain rfl : u = Value.ref e := ru
    rcases lu with ⟨_, z⟩ | ⟨z, _⟩
    · exact z
    · exfalso
      have z' : F.scope.names.lookup ar.arg = some .cell ∨ F.scope.names.lookup ar.arg = some .free := z
      rcases z' with z' | z' <;> rw [hka] at z' <;> cases z'
  refine PySem.ks_wpAt_Expr_any (PySem.ks_wpAt_MethodCall (pl := pl) ?_ (hev _)) I.quiet hsw
  refine PySem.ks_wpAt_super_base (env := envF F f s0.heap.objs.size) hks hkc (by decide) rfl (KX _ _ lk) rfl hp rfl (KX _ _ hcode) rfl hvs hfile T.top ?_
  refine PySem.W.ks_loadName_global hk hks (loadGlobal_builtin (env := envF F f s0.heap.objs.size) (I.mod.glob.keeps I.bk) hmg (hb1.keeps I.bk) ((hb2 "super" (by decide)).trans (by first | rfl | kernel_rfl)) ⟨rfl, ?_⟩)
  refine wpAny_loadName_free hk hkc (show F.cl.lookup ("__class__" : Str) = some cc by rw [hcl]; rfl) ⟨_, KX _ _ hcell, rfl⟩ ?_
  refine wpAny_loadName_local hk hka hns hself ?_
  have sub1 : PySem.W.Looks (model P w) s.heap (isSubtype (.ref C) (.ref C)) true := PySem.W.looks_mroIn KX T.sub
  obtain ⟨hp1, g, dr, tk, os⟩ := s
  refine PySem.ks_wpAny_isType_cls (KX _ _ hC) rfl ⟨rfl, ?_⟩
  refine PySem.ks_wpAny_call_super (KX _ _ hC) rfl ho rfl (fun c z => by cases z) sub1 (fun h1 e1 kp1 => ?_)
  have KX1 : K.In h1 := fun b o z => kp1 b o (KX b o z)
  have ho1 := kp1 _ _ ho
  have T1 : PySem.W.Looks (model P w) h1 (typeOf (.ref e)) (.ref C) := (PySem.W.Looks.ld ho1).andThen .now
  have hI1 : PySem.W.Looks (model P w) h1 (isInstance (.ref e) (.type "ValueError")) true := T1.andThen (PySem.W.looks_subIn KX1 T.ve)
  have hm := T.up
  unfold PySem.W.ks_superIn at hm
  rw [hCc] at hm
  refine PySem.W.kxs_getMethod PySem.W.kxs_ValueError e1 (PySem.W.looks_opaque KX1 T.clean) (l₀ := .ref C :: bm) (fun A Q E s k q => wpAny_bind ((PySem.W.looks_clsIn KX1 hCc) A _ E s k (wpAny_pure q))) rfl KX1 hm hI1 (fun z => by
    subst z
    have y := KX _ _ hC
    rw [ho] at y
    cases y) (by decide) ?_
  have e2 : (h1.push (PySem.W.kxs_mw "ValueError.__init__" e)).get? h1.objs.size = some (PySem.W.kxs_mw "ValueError.__init__" e) := Heap.get?_push_size h1 rfl
  have kp2 : ∀ b o, h1.get? b = some o → (h1.push (PySem.W.kxs_mw "ValueError.__init__" e)).get? b = some o := fun b o z => Heap.get?_push_of_some _ z
  generalize h1.push (PySem.W.kxs_mw "ValueError.__init__" e) = h2 at e2 kp2
  generalize h1.objs.size = u at e2
  have kp : ∀ b o, hp1.get? b = some o → h2.get? b = some o := fun b o z => kp2 b o (kp1 b o z)
  refine PySem.W.kxs_callWith (i := "ValueError.__init__") (x := e) rfl ?_
  refine evalArgs_plain ?_
  refine spliced_cons (x := eval (.Constant (.str txt) kk p3) (envF F f s0.heap.objs.size)) (rest := []) (Calls.Constant_str (spliced_nil ⟨e2, ?_⟩))
  refine wpAny_call (codeAny_of_tree ?_)
  show wpAny _ _ (callAny (.ref u) ⟨[.str txt _], []⟩) _ _ _
  simp only [callAny]
  refine wpAny_bind (wpAny_load e2 ?_)
  simp only [PySem.W.kxs_mw, show (Value.type "method-wrapper" == Value.type "method" || Value.type "method-wrapper" == Value.type "builtin_function_or_method" || Value.type "method-wrapper" == Value.type "method-wrapper") = true by decide, if_true]
  refine PySem.W.KFB.if_so (by decide) ?_
  refine wpAny_bind (PySem.W.check_bound_init PySem.F.excBase_ValueError.toExcCallFacts (kp _ _ (KX _ _ hC)) (kp _ _ ho) rfl ?_)
  refine wpAny_bind (wpAny_pure (wpAny_pure ?_))
  refine ⟨plainId_quiet PySem.F.excBase_ValueError.init.plain _, codeAny_builtin PySem.F.excBase_ValueError.initEntry ?_⟩
  refine PySem.W.exc_init_tree (cls := .ref C) (t0 := t1) (dv := d) (c2 := .none) (c3 := .none) (b4 := .bool false) (kp _ _ ho) (show 1 ≤ sizeLine by decide) (fun h' k3' e3 _ => ?_)
  have J := I.write (t' := tk + 1 + 1) (x := e) (e := e) (o := exo e C d) (h' := h') (by rw [he]; exact True.intro) (.inl rfl) (fun b u hb z => k3' b u hb (kp b u z)) ⟨_, e3⟩ (exo_ok e3)
  have eu : upd H e (exo e C d) = H := by
    funext b
    by_cases hb : b = e
    · rw [hb, upd_same, he]
    · rw [upd_ne hb]
  rw [eu] at J
  exact ⟨σ, H, J, q⟩
/-- statements, one behind another -/
inductive PSl (X : Cx) : List Stmt → TS → Prop where
  | nil : PSl X [] tNext
  | cons {st : Stmt} {ss : List Stmt} {t u : TS} : PS X st t → PSl X ss u → PSl X (st :: ss) (tSeq t u)
theorem PSl.run {X : Cx} {ss : List Stmt} {t : TS} (h : PSl X ss t) : ∀ {c : Code} {tail : List Stmt} {s : Shared} {σ : L2.St} {H : Hp} {Nx : L2.St → Hp → Prop} {D : Ends}, Inv X [] σ H s → t { nx := Nx, rt := fun _ _ => False } σ H →
    (∀ s' σ' H', Inv X [] σ' H' s' → Nx σ' H' → PySem.wpAt (model X.prog X.w) X.A c (execs tail X.env) (SP X [] D) X.xe s') → PySem.wpAt (model X.prog X.w) X.A c (execs (ss ++ tail) X.env) (SP X [] D) X.xe s := by
  induction h with
  | nil => intro c tail s σ H Nx D I q k; exact k s σ H I q
  | @cons st ss t u hs _ ih =>
    intro c tail s σ H Nx D I q k
    refine PySem.ks_wpAt_execs_cons (wpAt_of_wpAny (thn (hs.run [] s σ H _ I q) fun f s' hf => ?_))
    cases f with
    | next =>
      obtain ⟨σ', H', I', q'⟩ := hf
      exact ih I' q' k
    | brk =>
      obtain ⟨_, _, _, q'⟩ := hf
      exact False.elim q'
    | cont =>
      obtain ⟨_, _, _, q'⟩ := hf
      exact False.elim q'
    | ret u =>
      obtain ⟨_, _, _, _, _, q'⟩ := hf
      exact False.elim q'
/-- THE RULE: such an __init__ by the statements ahead of the last one -/
theorem fn_init {C cc cda : Addr} {name qual : Str} {params : Arguments} {ss : List Stmt} {scope : Scope} {dV kV doc pm ct oc : Value} {an od : Option Addr} {osl : Array (Option Value)} {ps : List Str} {k : Nat} {sp : Sp} {ar : PySem.Arg} {p0 p1 p2 p3 p4 p5 : Pos} {txt : Str} {kk : Nat} {body : List Stmt}
    (hbd : body = ss ++ [.Expr (.Call (.Attribute (.Call (.Name "super" p0) [] [] p1) "__init__" p2) [.Constant (.str txt) kk p3] [] p4) p5])
    (lk : K.lookup f = some ⟨oc, od, .func (PySem.W.fnX name qual params body scope [(("__class__" : Str), cc)] dV kV doc pm an (.ref cda) ct), osl⟩) (hcd : PySem.W.codeIn K (.ref cda) qual = true)
    (S : NScope N ps ["__class__"] scope) (T : SupC P K C cc cda) (hmg : mg "super" = none) (hhead : (params.posonlyargs ++ params.args).head? = some ar) (hN : N[0]? = some ar.arg) (hka : scope.names.lookup ar.arg = some .local)
    (hks : scope.names.lookup ("super" : Str) = some .globalImplicit) (len : ∀ vs H Q E, sp vs H Q E → vs.length = ps.length) {pl : Sem Bool}
    (hev : ∀ env : PySem.Env, eval (.Call (.Attribute (.Call (.Name "super" p0) [] [] p1) "__init__" p2) [.Constant (.str txt) kk p3] [] p4) env = (do
      let ov ← attributeBase (.Call (.Name "super" p0) [] [] p1) "__init__" env (eval (.Call (.Name "super" p0) [] [] p1) env)
      standAt p2.atName
      let (f, first) ← holding [ov] (getMethod ov "__init__" pl)
      callWith p4 f first (backTo p4 (starEach [.Constant (.str txt) kk p3] env)) []))
    (hsw : ∀ L, swapsWith (.Call (.Attribute (.Call (.Name "super" p0) [] [] p1) "__init__" p2) [.Constant (.str txt) kk p3] [] p4) none p5.line (PySem.W.envX qual scope L f (.ref cda) [(("__class__" : Str), cc)]) = pure false)
    (hbody : ∀ (A : Around) (outer : List PySem.Env) (s : Shared) (H : Hp) (vs : List V) (Q : VK) (E : XK), sp vs H Q E →
      ∃ t, PSl (ncx CX P w K mg base N ⟨name, qual, params, body, scope, [(("__class__" : Str), cc)], cda⟩ f A outer s H E) ss t ∧
        t { nx := fun σ H' => ∃ e d, σ[0]? = some (some (.ref e)) ∧ H' e = some (exo e C d) ∧ Q .non H', rt := fun _ _ => False } (startF N vs [none]) H) :
    FnOk P w K mg base CX (k + 1) f (PySem.W.fnX name qual params body scope [(("__class__" : Str), cc)] dV kV doc pm an (.ref cda) ct) ps sp := by
  refine ⟨len, fun A outer s H args us vs Q E hr e0 hb r hsp => ?_⟩
  have hl := len _ _ _ _ hsp
  have KX : K.In s.heap := e0.mod.kin.keeps fun b o e => (e0.bs b o e).1
  have lim : s.heap.NoLimit := e0.mod.nolimit.keeps fun b o e => (e0.bs b o e).1
  obtain ⟨c1, c2, c3, hcell⟩ := T.cell
  obtain ⟨t, ht, hq⟩ := hbody A outer s H vs Q E hsp
  have CA : CellsAt (NF.cl ⟨name, qual, params, body, scope, [(("__class__" : Str), cc)], cda⟩) ["__class__"] [none] s.heap H := by
    have key : ∀ (y : Str) (c : Addr), List.lookup y [(("__class__" : Str), cc)] = some c → y = "__class__" ∧ c = cc := fun y c e => by
      have := PySem.mem_of_lookup e
      rw [List.mem_singleton] at this
      cases this
      exact ⟨rfl, rfl⟩
    have hc := e0.bs cc _ (e0.mod.kin cc _ hcell)
    refine ⟨rfl, fun y c e => ?_, fun x y c e1 e2 => ?_, fun i y hi => ?_⟩
    · obtain ⟨_, rfl⟩ := key y c e
      exact ⟨hc.2, _, _, hc.1, rfl⟩
    · rw [(key x c e1).1, (key y c e2).1]
    · match i, hi with
      | 0, hi =>
        cases hi
        exact ⟨cc, rfl, fun v z => by cases z⟩
      | i + 1, hi => cases hi
  refine codeAny_call_function hr.depth (KX _ _ lk) rfl S.co S.gen rfl (PySem.W.codeRec_of KX hcd) (hb _ _ _ _ ?_)
  refine wpAny_newFunctionEnv S.nocell (fun ⟨n, _⟩ hy => S.par n (List.of_mem_zip hy).1) (fun h₁ hns hsb => ⟨lim.fresh _ hsb, ?_⟩) S.kind
  have kp : ∀ b o, s.heap.get? b = some o → h₁.get? b = some o := fun b o e => hsb.extBut b o (Nat.ne_of_lt (Heap.lt_size e)) (Heap.get?_push_of_some _ e)
  have I : Inv (ncx CX P w K mg base N ⟨name, qual, params, body, scope, [(("__class__" : Str), cc)], cda⟩ f A outer s H E) [] (startF N vs [none]) H { s with heap := h₁, toks := s.toks + (ps.zip us).length } := inv_startN (F := ⟨name, qual, params, body, scope, [(("__class__" : Str), cc)], cda⟩) S hr.hd e0 hl r CA hns kp
  refine PySem.ks_codeAny_funcAt ?_
  have main := ht.run (c := .func body (envF ⟨name, qual, params, body, scope, [(("__class__" : Str), cc)], cda⟩ f s.heap.objs.size)) (tail := [.Expr (.Call (.Attribute (.Call (.Name "super" p0) [] [] p1) "__init__" p2) [.Constant (.str txt) kk p3] [] p4) p5]) (D := { nx := fun σ H' => Q .non H', rt := fun _ _ => False }) I hq fun s' σ' H' I' ⟨e, d, h1, h2, h3⟩ => ?_
  · rw [← hbd] at main
    refine PySem.ks_wpAt_mono main (fun fl s' hs => ?_) fun e s' hs => hs
    cases fl with
    | ret u =>
      obtain ⟨_, _, _, _, _, q⟩ := hs
      exact False.elim q
    | next =>
      obtain ⟨σ', H', J, q⟩ := hs
      exact ⟨.non, H', J.os, J.bare, J.base, J.hok, rfl, q⟩
    | brk =>
      obtain ⟨_, _, _, q⟩ := hs
      exact False.elim q
    | cont =>
      obtain ⟨_, _, _, q⟩ := hs
      exact False.elim q
  · refine PySem.ks_wpAt_execs_cons ?_
    refine PySem.ks_wpAt_mono (sup_run (F := ⟨name, qual, params, body, scope, [(("__class__" : Str), cc)], cda⟩) (D := { nx := fun σ H' => Q .non H', rt := fun _ _ => False }) T rfl S.kind hks (S.frk _ List.mem_cons_self) hmg lk hhead hka hN I' h1 h2 h3 hev (hsw _)) (fun fl s' hs => ?_) fun e s' hs => hs
    cases fl with
    | next => exact wpAt_of_wpAny (wpAny_execs_nil hs)
    | ret u => exact hs
    | brk => exact hs
    | cont => exact hs
end
end Lw
/-! Own exceptions over ValueError whose __init__ stores its parameters and ends with super().__init__('..'): what the head tells of them. -/
namespace Lw
open PySem PySem.Spec PySem.Calls PyProof.Rows L2 NdefX
/-! ### facts of the written part -/
def inC (K : PySem.W.Frag) (x : Str) : Addr := He.ga K x
def inI (K : PySem.W.Frag) (x : Str) : Addr := He.ma K (inC K x) "__init__"
abbrev InW : Type := Option (Str × Str × Arguments × FuncBody × Scope × Addr × List Str × Addr)
def inW (K : PySem.W.Frag) (x : Str) : InW := match K.lookup (inI K x) with
  | some ⟨_, _, .func fd, _⟩ => some (fd.name, fd.qualname, fd.params, fd.body, fd.scope, fd.globals, fd.closure.map (·.1), fd.builtins)
  | _ => none
structure XD where
  x : Str
  st : Stmt
  /-- none: the class's own __init__ over an exception; (m, kind): the def behind its record m (a classmethod, a property) -/
  cm : Option (Str × String) := none
def XD.val (d : XD) : InW := match d.cm with
  | none => some ("__init__", d.x ++ ".__init__", defArgs d.st, .stmts (defBody d.st), defScope d.st, mainGlobals, ["__class__"], builtinsNs)
  | some (m, _) => some (m, d.x ++ "." ++ m, defArgs d.st, .stmts (defBody d.st), defScope d.st, mainGlobals, [], builtinsNs)
/-- the def behind a record of a class -/
def recF (K : PySem.W.Frag) (C m : Str) (kind : String) : Addr := match PySem.W.recIn K (He.ma K (He.ga K C) m) kind with
  | some (.ref g :: _) => g
  | _ => 0
def fnWA (K : PySem.W.Frag) (a : Addr) : InW := match K.lookup a with
  | some ⟨_, _, .func fd, _⟩ => some (fd.name, fd.qualname, fd.params, fd.body, fd.scope, fd.globals, fd.closure.map (·.1), fd.builtins)
  | _ => none
def XD.obs (K : PySem.W.Frag) (d : XD) : InW := match d.cm with
  | none => inW K d.x
  | some (m, kind) => fnWA K (recF K d.x m kind)
def clsB (K : PySem.W.Frag) (C : Addr) : Bool := match K.lookup C with
  | some ⟨.type t, _, .cls cd, sl⟩ => t == "type" && (match cd.mro, sl.toList with
    | .ref C' :: bm, [_, _, _, _, some (.builtin n), _] => C' == C && n == "ValueError.__new__" && !cd.hasDel && cd.hasDict && PySem.HandSPX.refsVE bm
    | _, _ => false)
  | _ => false
def celB (K : PySem.W.Frag) (cc C : Addr) : Bool := match K.lookup cc with
  | some ⟨_, _, .cell (some (.ref D)), _⟩ => D == C
  | _ => false
def filB (K : PySem.W.Frag) (cda : Addr) (file : Str) : Bool := match K.lookup cda with
  | some ⟨_, _, .fields vs, _⟩ => (match (vs[2]? : Option Value) with
    | some (Value.str f _) => file == f
    | _ => false)
  | _ => false
def fnB (K : PySem.W.Frag) (x : Str) (file : Str) : Bool := match K.lookup (inI K x) with
  | some ⟨_, _, .func fd, _⟩ => (match fd.closure, fd.code, fd.defaults with
    | [(_, cc)], .ref cda, .none => celB K cc (inC K x) && PySem.W.codeIn K (.ref cda) (x ++ ".__init__") && filB K cda file
    | _, _, _ => false)
  | _ => false
def xdB (K : PySem.W.Frag) (x : Str) (fs : List Str) (file : Str) : Bool :=
  decide (PySem.W.nsIn K mainGlobals x = some (some (.ref (inC K x)))) && clsB K (inC K x) && decide (PySem.W.findIn K (.ref (inC K x)) "__setattr__" = some (some (.builtin "object.__setattr__"))) && decide (PySem.W.subIn K (.ref (inC K x)) (.type "BaseException") = some true) &&
  decide (PySem.W.typeIn K (.ref (inC K x)) = some (.type "type")) && PySem.W.keepIn K (.ref (inC K x)) && decide (PySem.W.mroIn K (inC K x) (.ref (inC K x)) = some true) && decide (PySem.W.ks_superIn K (inC K x) (inC K x) "__init__" = some (some (.builtin "ValueError.__init__"))) &&
  decide (PySem.W.nsIn K cStatics "thirdparty.any" = some none) && decide (PySem.W.subIn K (.ref (inC K x)) (.type "ValueError") = some true) && decide (PySem.W.nsIn K mainGlobals "super" = some none) && decide (PySem.W.findIn K (.ref (inC K x)) "__init__" = some (some (.ref (inI K x)))) &&
  decide (PySem.W.typeIn K (.ref (inI K x)) = some (.type "function")) && xfB K (inC K x) && decide (PySem.W.exmOne K (.ref (inC K x)) (.ref (inC K x)) = some true) && fs.all (fun f => decide (PySem.W.findIn K (.ref (inC K x)) f = some none)) && fnB K x file
theorem clsB_ok {K : PySem.W.Frag} {C : Addr} (h : clsB K C = true) : ∃ nm q N bs bm sn sub ab col dd k0 k1 k2 k3 k5, K.lookup C = some (excClassObj nm q C N bs bm true sn sub ab col dd k0 k1 k2 k3 k5 "ValueError.__new__") ∧ PySem.HandSPX.refsVE bm = true := by
  unfold clsB at h
  split at h
  · rename_i t dd cd sl ho
    obtain ⟨ht, h⟩ := Bool.and_eq_true_iff.mp h
    split at h
    · rename_i C' bm k0 k1 k2 k3 n k5 hm hs
      simp only [Bool.and_eq_true, beq_iff_eq, Bool.not_eq_true'] at h
      obtain ⟨⟨⟨⟨rfl, rfl⟩, hdel⟩, hdic⟩, ht2⟩ := h
      obtain ⟨nm, bs, mro, ns, qn, hd, sn, sub, ab, col, del⟩ := cd
      dsimp only at hm hdel hdic
      subst hm hdel hdic
      have hsl : sl = #[k0, k1, k2, k3, some (.builtin "ValueError.__new__"), k5] := by
        obtain ⟨l⟩ := sl
        simp only at hs
        rw [hs]
      subst hsl
      rw [beq_iff_eq] at ht
      subst ht
      exact ⟨nm, qn, ns, bs, bm, sn, sub, ab, col, dd, k0, k1, k2, k3, k5, ho, ht2⟩
    · cases h
  · cases h
theorem celB_ok {K : PySem.W.Frag} {cc C : Addr} (h : celB K cc C = true) : ∃ c d s, K.lookup cc = some ⟨c, d, .cell (some (.ref C)), s⟩ := by
  unfold celB at h
  split at h
  · rename_i a b D s ho
    rw [beq_iff_eq] at h
    subst h
    exact ⟨a, b, s, ho⟩
  · cases h
theorem filB_ok {K : PySem.W.Frag} {cda : Addr} {fl : Str} (h : filB K cda fl = true) : ∃ c d vs s file tf, K.lookup cda = some ⟨c, d, .fields vs, s⟩ ∧ vs[2]? = some (.str file tf) ∧ (fl == file) = true := by
  unfold filB at h
  split at h
  · rename_i a b vs s ho
    split at h
    · rename_i f tf hv
      exact ⟨a, b, vs, s, f, tf, ho, hv, h⟩
    · cases h
  · cases h
/-! ### the __init__ -/
/-- self.f = f, one behind another, then super().__init__('..') -/
def spIni (C : Addr) (fs : List Str) : Sp := fun vs H Q _ => ∃ (e : Addr) (ys : List V), vs = .ref e :: ys ∧ ys.length = fs.length ∧ H e = some (exo e C none) ∧ ∀ dx, H dx = none → dx ≠ e → Q .non (upd (upd H dx (exd dx (fs.zip ys).reverse)) e (exo e C (some dx)))
theorem upd_comm {H : Hp} {a b : Addr} {o u : HO} (h : a ≠ b) : upd (upd H a o) b u = upd (upd H b u) a o := by
  funext c
  by_cases hb : c = b
  · subst hb; rw [upd_same, upd_ne (Ne.symm h), upd_same]
  · rw [upd_ne hb]
    by_cases ha : c = a
    · subst ha; rw [upd_same, upd_same]
    · rw [upd_ne ha, upd_ne ha, upd_ne hb]
section
variable {CX : CXT} {P : Program} {w : World} {K : PySem.W.Frag} {mg : Str → Option Value} {base : Heap} {N : List Str} {F : NF} {f : Addr} {A : Around} {outer : List PySem.Env} {s0 : Shared} {H0 : Hp} {E0 : XK}
/-- what the text of such an __init__ must be: fs its fields, each stored from the parameter of its name -/
structure IniTxt (fs : List Str) (name qual : Str) (params : Arguments) (body : List Stmt) (scope : Scope) : Prop where
  ok : ∀ {P : Program} {w : World} {K : PySem.W.Frag} {mg : Str → Option Value} {base : Heap} {C cc cda f : Addr} {dV kV doc pm ct oc : Value} {an od : Option Addr} {osl : Array (Option Value)}, SupC P K C cc cda → mg "super" = none → (∀ x ∈ fs, PySem.W.findIn K (.ref C) x = some none) →
    K.lookup f = some ⟨oc, od, .func (PySem.W.fnX name qual params body scope [(("__class__" : Str), cc)] dV kV doc pm an (.ref cda) ct), osl⟩ → PySem.W.codeIn K (.ref cda) qual = true →
    FnOk P w K mg base CX0 1 f (PySem.W.fnX name qual params body scope [(("__class__" : Str), cc)] dV kV doc pm an (.ref cda) ct) (("self" : Str) :: fs) (spIni C fs)
  bind : ∀ (kV doc pm : Value) (an : Option Addr) (cdv ct : Value) (cl : List (Str × Addr)) (us : List Value), us.length = fs.length + 1 → bindArgs (PySem.W.fnX name qual params body scope cl .none kV doc pm an cdv ct) ⟨us, []⟩ = pure ((("self" : Str) :: fs).zip us)
/-- one field: the reading -/
theorem ini1_read {C : Addr} {f1 : Str} {vs : List V} {H : Hp} {Q : VK} {E : XK} (T : OexC K C) (h1 : PySem.W.findIn K (.ref C) f1 = some none) (h : spIni C [f1] vs H Q E) :
    tSeq (tOst K f1 (tVar 0) (tVar 1)) tNext { nx := fun σ H' => ∃ e d, σ[0]? = some (some (.ref e)) ∧ H' e = some (exo e C d) ∧ Q .non H', rt := fun _ _ => False } (startF ["self", f1, "__class__"] vs [none]) H := by
  obtain ⟨e, ys, rfl, hl, he, q⟩ := h
  match ys, hl with
  | [y], _ => exact ⟨y, rfl, .ref e, rfl, e, C, rfl, T, h1, .inl ⟨he, fun dx n ne => ⟨e, some dx, rfl, upd_same, q dx n ne⟩⟩⟩
theorem ini2_read {C : Addr} {f1 f2 : Str} {vs : List V} {H : Hp} {Q : VK} {E : XK} (T : OexC K C) (h1 : PySem.W.findIn K (.ref C) f1 = some none) (h2 : PySem.W.findIn K (.ref C) f2 = some none) (h : spIni C [f1, f2] vs H Q E) :
    tSeq (tOst K f1 (tVar 0) (tVar 1)) (tSeq (tOst K f2 (tVar 0) (tVar 2)) tNext) { nx := fun σ H' => ∃ e d, σ[0]? = some (some (.ref e)) ∧ H' e = some (exo e C d) ∧ Q .non H', rt := fun _ _ => False } (startF ["self", f1, f2, "__class__"] vs [none]) H := by
  obtain ⟨e, ys, rfl, hl, he, q⟩ := h
  match ys, hl with
  | [y, z], _ =>
    refine ⟨y, rfl, .ref e, rfl, e, C, rfl, T, h1, .inl ⟨he, fun dx n ne => ?_⟩⟩
    refine ⟨z, rfl, .ref e, rfl, e, C, rfl, T, h2, .inr ⟨dx, [(f1, y)], upd_same, ?_, (by simp), e, some dx, rfl, ?_, ?_⟩⟩
    · rw [upd_ne ne, upd_same]
    · rw [upd_ne (Ne.symm ne), upd_same]
    · have := q dx n ne
      rw [upd_comm (Ne.symm ne), upd_upd]
      exact this
end
/-- all that is used of such a class -/
structure ExcD (P : Program) (w : World) (K : PySem.W.Frag) (mg : Str → Option Value) (base : Heap) (x : Str) (fs : List Str) : Prop where
  gC : mg x = some (.ref (inC K x))
  kC : PySem.W.keepIn K (.ref (inC K x)) = true
  T : OexC K (inC K x)
  fl : ∀ f ∈ fs, PySem.W.findIn K (.ref (inC K x)) f = some none
  xf : XfC K (inC K x)
  te : PySem.W.exmOne K (.ref (inC K x)) (.ref (inC K x)) = some true
  ini : ∃ fd, PySem.W.findIn K (.ref (inC K x)) "__init__" = some (some (.ref (inI K x))) ∧ PySem.W.typeIn K (.ref (inI K x)) = some (.type "function") ∧ Binds K fd (("self" : Str) :: fs) [] ∧ FnOk P w K mg base CX0 1 (inI K x) fd (("self" : Str) :: fs) (spIni (inC K x) fs)
theorem excD_of {P : Program} {w : World} {K : PySem.W.Frag} {mg : Str → Option Value} {base : Heap} {x : Str} {fs : List Str} {st : Stmt} (glo : ∀ x v, PySem.W.nsIn K mainGlobals x = some (some v) → mg x = some v) (gloN : ∀ x, PySem.W.nsIn K mainGlobals x = some none → mg x = none)
    (hb : xdB K x fs P.main.file = true) (hw : inW K x = XD.val ⟨x, st, none⟩) (ht : IniTxt fs "__init__" (x ++ ".__init__") (defArgs st) (defBody st) (defScope st)) (htop : (P.main.scope.names.lookup ("super" : Str)).isSome = false) : ExcD P w K mg base x fs := by
  unfold xdB at hb
  simp only [Bool.and_eq_true, decide_eq_true_eq] at hb
  obtain ⟨⟨⟨⟨⟨⟨⟨⟨⟨⟨⟨⟨⟨⟨⟨⟨b1, b2⟩, b3⟩, b4⟩, b5⟩, b6⟩, b7⟩, b8⟩, b9⟩, b10⟩, b11⟩, b12⟩, b13⟩, b14⟩, b15⟩, b16⟩, b17⟩ := hb
  have T : OexC K (inC K x) := ⟨clsB_ok b2, b3, b4, b5, b6⟩
  have hfl : ∀ f ∈ fs, PySem.W.findIn K (.ref (inC K x)) f = some none := fun f hf => of_decide_eq_true (List.all_eq_true.mp b16 f hf)
  refine ⟨glo _ _ b1, b6, T, hfl, xfB_ok b14, b15, ?_⟩
  unfold fnB at b17
  unfold inW at hw
  cases q : K.lookup (inI K x) with
  | none => rw [q] at b17; cases b17
  | some o =>
    obtain ⟨oc, od, dt, osl⟩ := o
    rw [q] at b17 hw
    cases dt with
    | func fd =>
      obtain ⟨n1, n2, n3, n4, n5, n6, n7, n8, n9, n10, n11, n12, n13, n14, n15⟩ := fd
      have e2 : (some (n1, n2, n3, n4, n5, n6, n7.map (·.1), n15) : InW) = some (("__init__" : Str), (x ++ ".__init__" : Str), defArgs st, FuncBody.stmts (defBody st), defScope st, mainGlobals, [("__class__" : Str)], builtinsNs) := hw
      simp only [Option.some.injEq, Prod.mk.injEq] at e2
      obtain ⟨h1, h2, h3, h4, h5, h6, h7, h8⟩ := e2
      subst h1 h2 h3 h4 h5 h6 h8
      dsimp only at b17
      split at b17
      · rename_i cn cc cda
        obtain rfl : cn = ("__class__" : Str) := by simpa using h7
        simp only [Bool.and_eq_true] at b17
        obtain ⟨⟨c1, c2⟩, c3⟩ := b17
        have S : SupC P K (inC K x) cc cda := ⟨T, celB_ok c1, b7, b8, b9, b10, filB_ok c3, htop⟩
        exact ⟨_, b12, b13, Binds.all fun us hl => ht.bind _ _ _ _ _ _ _ us (by rw [hl]; rfl), ht.ok S (gloN _ b11) hfl q c2⟩
      · cases b17
    | _ => cases b17
end Lw
/-! The head's Hook with own exceptions. -/
namespace Lw
open PySem PySem.Spec PyProof.Rows L2
def asY (g : Addr → Option Obj) : Nat → List Addr
  | 0 => [mainGlobals, cStatics]
  | n + 1 => He.growD g (asY g n)
abbrev AlY : Type := He.AlD × Bool × List InW
def obsY (n : Nat) (fa : List He.Fa) (fn : List He.DefD) (ex : PySem.W.Frag → Bool) (xs : List XD) (g : Addr → Option Obj) : AlY :=
  (He.obsD fa fn (He.frG g (asY g n)), ex (He.frG g (asY g n)), xs.map fun d => XD.obs (He.frG g (asY g n)) d)
def valY (fn : List He.DefD) (xs : List XD) : AlY := (He.valD fn, true, xs.map XD.val)
/-- what is told: the facts, the defs, the Bool ex, the exceptions' own __init__s -/
structure SaysY (fa : List He.Fa) (fn : List He.DefD) (ex : PySem.W.Frag → Bool) (xs : List XD) (K : PySem.W.Frag) : Prop where
  d : He.SaysD fa fn K
  more : ex K = true
  x : xs.map (fun d => XD.obs K d) = xs.map XD.val
def hookY (n : Nat) (fa : List He.Fa) (fn : List He.DefD) (ex : PySem.W.Frag → Bool) (xs : List XD) : PySem.W.Hook where
  α := AlY
  obs := fun s => obsY n fa fn ex xs s.heap.get?
  val := fun _ => valY fn xs
  says := fun _ h => ∃ K : PySem.W.Frag, K.In h ∧ SaysY fa fn ex xs K
  of := fun _ s e => ⟨_, He.frG_in, ⟨congrArg (fun z : AlY => z.1) e, congrArg (fun z : AlY => z.2.1) e, congrArg (fun z : AlY => z.2.2) e⟩⟩
  keeps := fun _ _ _ ⟨K, hK, c⟩ k => ⟨K, PySem.W.Frag.In.keeps hK k, c⟩
theorem obsY_eq {n : Nat} {fa : List He.Fa} {fn : List He.DefD} {ex : PySem.W.Frag → Bool} {xs : List XD} {g : Addr → Option Obj} {s : Shared} (h : ∀ a, g a = s.heap.get? a) : obsY n fa fn ex xs g = (hookY n fa fn ex xs).obs s := by
  have e : g = s.heap.get? := funext h
  rw [e] <;> rfl
/-- the written part's facts behind its top -/
structure Fy (fa : List He.Fa) (fn : List He.DefD) (ex : PySem.W.Frag → Bool) (xs : List XD) (K : PySem.W.Frag) (mg : Str → Option Value) : Prop where
  f : Fx fa fn ex K mg
  x : xs.map (fun d => XD.obs K d) = xs.map XD.val
  int_ : ∀ (i : Nat) (x : Str) (n : Int), fa[i]? = some (He.Fa.int x n) → ∃ t, mg x = some (.int n t)
  str_ : ∀ (i : Nat) (x z : Str), fa[i]? = some (He.Fa.str x z) → ∃ t, mg x = some (.str z t)
theorem Fy.of {fa : List He.Fa} {fn : List He.DefD} {ex : PySem.W.Frag → Bool} {xs : List XD} {K : PySem.W.Frag} {mg : Str → Option Value} {h : Heap} (X : K.In h) (G : h.Ns mainGlobals mg) (c : SaysY fa fn ex xs K) : Fy fa fn ex xs K mg :=
  ⟨⟨c.d, c.more, fun _ _ e => PySem.W.mg_of X G e, fun _ e => PySem.W.mg_none_of X G e⟩, c.x, fun i x n e => He.int_ok X G (c.d.fact i e), fun i x z e => He.str_ok X G (c.d.fact i e)⟩
section
variable {fa : List He.Fa} {fn : List He.DefD} {ex : PySem.W.Frag → Bool} {xs : List XD} {K : PySem.W.Frag} {mg : Str → Option Value} {P : Program} {w : World} {base : Heap}
theorem Fy.free (E : Fy fa fn ex xs K mg) (i : Nat) {x : Str} (h : fa[i]? = some (.free x) := by rfl) : mg x = none := E.f.free i h
theorem Fy.gref (E : Fy fa fn ex xs K mg) (i : Nat) {x : Str} (h : fa[i]? = some (.glo x) := by rfl) : mg x = some (.ref (He.ga K x)) := E.f.gref i h
theorem Fy.int (E : Fy fa fn ex xs K mg) (i : Nat) {x : Str} {n : Int} (h : fa[i]? = some (He.Fa.int x n) := by rfl) : ∃ t, mg x = some (.int n t) := E.int_ i x n h
theorem Fy.str (E : Fy fa fn ex xs K mg) (i : Nat) {x z : Str} (h : fa[i]? = some (He.Fa.str x z) := by rfl) : ∃ t, mg x = some (.str z t) := E.str_ i x z h
theorem Fy.cal (E : Fy fa fn ex xs K mg) (i j : Nat) {x : Str} {st : Stmt} {ps : List Str} {k : Nat} {sp : Sp} (hi : fn[i]? = some ⟨(x, none), x, x, defArgs st, defBody st, defScope st, [], []⟩) (hj : fa[j]? = some (.glo x))
    (hbi : ∀ (kV doc pm : Value) (an : Option Addr) (cdv ct : Value) (us : List Value), us.length = ps.length → bindArgs (PySem.W.fnOf x x (defArgs st) (defBody st) (defScope st) .none kV doc pm an cdv ct) ⟨us, []⟩ = pure (ps.zip us))
    (hf : ∀ f fd, FunD K x x (defArgs st) (defBody st) (defScope st) [] [] f fd → FnOk P w K mg base CX0 k f fd ps sp) : Cal P w K mg base x k ps sp := E.f.cal i j hi hj hbi hf
theorem Fy.obs (E : Fy fa fn ex xs K mg) (i : Nat) {d : XD} (h : xs[i]? = some d := by rfl) : XD.obs K d = d.val := by
  have e := congrArg (fun l => l[i]?) E.x
  simp only [List.getElem?_map, h, Option.map_some, Option.some.injEq] at e
  exact e
theorem Fy.ini (E : Fy fa fn ex xs K mg) (i : Nat) {x : Str} {st : Stmt} (h : xs[i]? = some ⟨x, st, none⟩ := by rfl) : inW K x = XD.val ⟨x, st, none⟩ := E.obs i h
end
end Lw
/-! What the head looks at further. -/
namespace Lw
open PySem PySem.Spec PyProof.Rows L2 ClX C8
/-- by what is looked at -/
def cvalB (K : PySem.W.Frag) (C f : Str) (n : Int) : Bool := PySem.W.readsIn K (He.ga K C) (.type "type") && (He.eqO (PySem.W.specialIn K (.ref (He.ga K C)) "__getattribute__") (some (some (.builtin "type.__getattribute__"))) && (match PySem.W.findCls K (.ref (He.ga K C)) (.type "type") f with
  | some (.val (.int j _)) => decide (j = n)
  | _ => false))
def emptyT (K : PySem.W.Frag) (a : Addr) : Bool := match K.lookup a with
  | some ⟨.type c, _, .seq its _, _⟩ => decide (c = "tuple") && its.isEmpty
  | _ => false
/-- what isinstance(o, C) leans on, by what is looked at -/
def insCB (K : PySem.W.Frag) (x : Str) : Bool := (He.Fa.cls x).ok K && (He.eqO (PySem.W.findIn K (.ref (He.ga K x)) "__class__") (some (some (.builtin "object.__class__"))) && (He.eqO (PySem.W.specialIn K (.builtin "object.__class__") "__get__") (some (some (.builtin "getset_descriptor.__get__"))) &&
  (decide (PySem.W.takesIn K (.builtin "object.__class__") = some true) && (decide (PySem.W.mroIn K (He.ga K x) (.type "object") = some true) && decide (PySem.W.kitOne K (.ref (He.ga K x)) (.ref (He.ga K x)) = some true)))))
def xisB (K : PySem.W.Frag) (C : Addr) : Bool := (PySem.W.clsIn K C).isSome && (decide (PySem.W.findIn K (.ref C) "__getattribute__" = some (some (.builtin "BaseException.__getattribute__"))) && (decide (PySem.W.findIn K (.ref C) "__getattr__" = some none) && (decide (PySem.W.subIn K (.ref C) (.type "BaseException") = some true) && (decide (PySem.W.findIn K (.ref C) "__class__" = some (some (.builtin "object.__class__"))) && (decide (PySem.W.specialIn K (.builtin "object.__class__") "__get__" = some (some (.builtin "getset_descriptor.__get__"))) && (decide (PySem.W.takesIn K (.builtin "object.__class__") = some true) && decide (PySem.W.mroIn K C (.type "object") = some true)))))))
abbrev gaR (K : PySem.W.Frag) (x : Str) : Value := .ref (He.ga K x)
def exmB (K : PySem.W.Frag) (x y : Str) (v : Bool) : Bool := decide (PySem.W.exmOne K (.ref (inC K x)) (gaR K y) = some v)
def isOB (K : PySem.W.Frag) (x y : Str) (v : Bool) : Bool := decide (PySem.W.kitOne K (.ref (inC K x)) (gaR K y) = some v)
def isAB (K : PySem.W.Frag) (x : Str) (ys : List Str) (v : Bool) : Bool := decide (PySem.W.kitAny K (.ref (inC K x)) ((ys.map fun y => He.ga K y).map Value.ref) = some v)
def refB (K : PySem.W.Frag) : Bool :=
  (xisB K (inC K "InvalidCalendar") && (xisB K (inC K "NeverWorks") && xisB K (inC K "InvalidDay"))) &&
  ((exmB K "InvalidCalendar" "InvalidCalendar" true && (exmB K "NeverWorks" "InvalidCalendar" false && exmB K "NeverWorks" "NeverWorks" true)) &&
  (exmB K "InvalidDay" "InvalidCalendar" false && (exmB K "InvalidDay" "NeverWorks" false && exmB K "InvalidDay" "InvalidDay" true))) &&
  ((isOB K "InvalidCalendar" "PlanError" true && (decide (PySem.W.kitOne K (.ref (inC K "InvalidCalendar")) (.type "ValueError") = some true) && isAB K "InvalidCalendar" ["InvalidDay", "InvalidLength", "NeverWorks", "TooLarge"] false)) &&
  ((isOB K "NeverWorks" "PlanError" true && isAB K "NeverWorks" ["InvalidDay", "InvalidLength", "TooLarge"] false) && (isOB K "InvalidDay" "PlanError" true && isAB K "InvalidDay" ["InvalidLength", "TooLarge"] false)))
theorem all_at {l : List Bool} {i : Nat} {b : Bool} (h : l.all id = true) (e : l[i]? = some b) : b = true := List.all_eq_true.mp h b (List.mem_of_getElem? e)
/-- the def behind a record of a class -/
def recB (K : PySem.W.Frag) (C m q : Str) : Bool := PySem.W.readsIn K (He.ga K C) (.type "type") && (He.eqO (PySem.W.specialIn K (.ref (He.ga K C)) "__getattribute__") (some (some (.builtin "type.__getattribute__"))) &&
  ((match PySem.W.findCls K (.ref (He.ga K C)) (.type "type") m with
    | some (.get (.builtin b) (.ref p) .none (.ref C')) => decide (b = "classmethod.__get__") && (decide (p = He.ma K (He.ga K C) m) && decide (C' = He.ga K C))
    | _ => false) &&
  ((match PySem.W.recIn K (He.ma K (He.ga K C) m) "classmethod" with
    | some (.ref g :: _) => decide (g = recF K C m "classmethod")
    | _ => false) &&
  (PySem.W.keepIn K (.ref (recF K C m "classmethod")) && (match K.lookup (recF K C m "classmethod") with
    | some ⟨_, _, .func fd, _⟩ => PySem.W.codeIn K fd.code q && (He.dflB K fd.defaults [] && He.kwdB K fd.kwdefaults [])
    | _ => false)))))
end Lw
/-! What the head looks at further: classes without an __init__, classes over others. -/
namespace Lw
open PySem PySem.Spec PyProof.Rows L2 ClX
def mk0B (K : PySem.W.Frag) (x : Str) : Bool := PySem.W.makesIn K (He.ga K x) && (He.eqO (PySem.W.findIn K (.ref (He.ga K x)) "__init__") (some (some (.builtin "object.__init__"))) && (decide (PySem.W.mroIn K (He.ga K x) (.type "object") = some true) && PySem.W.keepIn K (.ref (He.ga K x))))
def insSB (K : PySem.W.Frag) (x y : Str) : Bool := (He.Fa.cls x).ok K && (He.eqO (PySem.W.findIn K (.ref (He.ga K x)) "__class__") (some (some (.builtin "object.__class__"))) && (He.eqO (PySem.W.specialIn K (.builtin "object.__class__") "__get__") (some (some (.builtin "getset_descriptor.__get__"))) &&
  (decide (PySem.W.takesIn K (.builtin "object.__class__") = some true) && (decide (PySem.W.mroIn K (He.ga K x) (.type "object") = some true) && decide (PySem.W.kitOne K (.ref (He.ga K x)) (.ref (He.ga K y)) = some true)))))
end Lw
namespace K22
open PySem PySem.Spec PyProof.Rows L2 Lw NdefX
def topS (i : Nat) : Stmt := PySem.Challenge.pw_planyard_k22_rule_orders.main.body.getD i (.Pass ⟨0, 0, 0, 0⟩)
def clsBody : Stmt → List Stmt
  | .ClassDef (body := b) .. => b
  | _ => []
def clsS (i j : Nat) : Stmt := (clsBody (topS i)).getD j (.Pass ⟨0, 0, 0, 0⟩)
def dd (x : Str) (i : Nat) : He.DefD := ⟨(x, none), x, x, defArgs (topS i), defBody (topS i), defScope (topS i), [], []⟩
def dm (C m q : Str) (i j : Nat) (ds : List He.Dv) : He.DefD := ⟨(C, some m), m, q, defArgs (clsS i j), defBody (clsS i j), defScope (clsS i j), ds, []⟩
def fn : List He.DefD := ([dd "by_ready" 1, dd "plan_rank" 2, dd "round_rank" 3, dd "_law_stream" 9, dd "_law_draw" 10, dd "_law_name" 11, dd "_law_ranked" 12, dd "_law_rounds" 13, dd "_law_rule" 14, dd "_law_rank" 15, dd "_law_due" 16, dd "_law_same" 17, dd "_law_steps" 18, dd "_law_holds" 19, dd "_law_waiting" 20, dd "law" 21, dm "Rule" "order" "Rule.order" 4 0 [], dm "Soonest" "order" "Soonest.order" 5 0 [], dm "Ranked" "__init__" "Ranked.__init__" 6 0 [], dm "Ranked" "order" "Ranked.order" 6 1 [], dm "Rounds" "__init__" "Rounds.__init__" 7 0 [], dm "Rounds" "order" "Rounds.order" 7 1 []] : List He.DefD)
def fa : List He.Fa := ([.glo "by_ready", .glo "plan_rank", .glo "round_rank", .glo "Rule", .glo "Soonest", .glo "Ranked", .glo "Rounds", .glo "_law_stream", .glo "_law_draw", .glo "_law_name", .glo "_law_ranked", .glo "_law_rounds", .glo "_law_rule", .glo "_law_rank", .glo "_law_due", .glo "_law_same", .glo "_law_steps", .glo "_law_holds", .glo "_law_waiting", .glo "law", .free "range", .free "list", .free "sorted", .free "len", .free "abs", .free "int", .free "min", .free "isinstance", .free "bool", .free "tuple"] : List He.Fa) ++ ([.cls "Rule", .meth "Rule" "order", .cls "Soonest", .meth "Soonest" "order", .cls "Ranked", .mkr "Ranked", .meth "Ranked" "order", .noat "Ranked" "plans_told", .cls "Rounds", .mkr "Rounds", .meth "Rounds" "order", .noat "Rounds" "plans_told"] : List He.Fa)
def names : List Str := (["by_ready", "plan_rank", "round_rank", "Rule", "Soonest", "Ranked", "Rounds", "_law_stream", "_law_draw", "_law_name", "_law_ranked", "_law_rounds", "_law_rule", "_law_rank", "_law_due", "_law_same", "_law_steps", "_law_holds", "_law_waiting"] : List Str)
def xs : List XD := []
def cks (K : PySem.W.Frag) : List Bool := [Lw.mk0B K "Rule", Lw.insSB K "Rule" "Rule", Lw.mk0B K "Soonest", Lw.insSB K "Soonest" "Rule", Lw.insSB K "Ranked" "Rule", decide ((He.cT K ("Ranked", some "order")).2 ≠ (He.cT K ("Rounds", some "order")).2), Lw.insSB K "Rounds" "Rule"]
def tf : List He.Defn := [("Ranked", some "order"), ("Rounds", some "order")]
def ex (K : PySem.W.Frag) : Bool := (cks K).all id
abbrev FX (K : PySem.W.Frag) (mg : Str → Option Value) : Prop := Lw.Fy fa fn ex xs K mg
/-- the program is this one -/
def ThisP (P : Program) : Prop := P = PySem.Challenge.pw_planyard_k22_rule_orders
end K22
/-! The run of the top, looked at piece by piece: each piece is a kernel's run of its own. -/
noncomputable section
namespace Lw
open PySem PySem.W PySem.Calls PyProof.Rows HandSHeadRun
/-- the whole run: the state ahead of the top, the state behind it -/
abbrev runO (M : Nat) (p : Program) (w : World) : Option (Shared × SharedT) := wholeF (fun q => stepQ (denQ tabQ) q w) fenceQ M p
abbrev kO (n : Nat) (x : Shared × SharedT) : PySem.W.Frag := He.frG (getT x.2) (asY (getT x.2) n)
def LookO (r : OpenRow) (q : Program) (loose : List PySem.Str) (M : Nat) (w : World) : Prop :=
  (runO M r.prog w).map (fun x => (looksF r.prog x.1.heap x.2.abs, seenQ q loose (importedModules r.prog.main.body) (fun s => xlAt q [] s && recOk r.toRowW.records s) x.2.abs)) = some (true, openGood q loose)
def FaO (p : Program) (n : Nat) (fa : List He.Fa) (M : Nat) (w : World) : Prop := (runO M p w).map (fun x => fa.all fun f => f.ok (kO n x)) = some true
def FnO (p : Program) (n : Nat) (fn : List He.DefD) (M : Nat) (w : World) : Prop := (runO M p w).map (fun x => (fn.all fun d => d.ok (kO n x), fn.map fun d => He.fnW (kO n x) d.at_)) = some (true, fn.map He.DefD.val)
def ExO (p : Program) (n : Nat) (cks : PySem.W.Frag → List Bool) (M : Nat) (w : World) : Prop := (runO M p w).map (fun x => (cks (kO n x)).all id) = some true
def XsO (p : Program) (n : Nat) (xs : List XD) (M : Nat) (w : World) : Prop := (runO M p w).map (fun x => xs.map fun d => XD.obs (kO n x) d) = some (xs.map XD.val)
theorem map_two {α β γ : Type} {o : Option α} {f : α → β} {g : α → γ} {b : β} {c : γ} (h : o.map f = some b) (k : o.map g = some c) : ∃ x, o = some x ∧ f x = b ∧ g x = c := by
  cases o with
  | none => cases h
  | some x => exact ⟨x, rfl, Option.some.inj h, Option.some.inj k⟩
theorem map_of {α β : Type} {o : Option α} {x : α} {f : α → β} {b : β} (e : o = some x) (h : o.map f = some b) : f x = b := by
  subst e
  exact Option.some.inj h
section
variable {p : Program} {n M : Nat} {w : World}
theorem FaO.append {l m : List He.Fa} (h : FaO p n l M w) (k : FaO p n m M w) : FaO p n (l ++ m) M w := by
  unfold FaO at h k ⊢
  obtain ⟨x, e, h1, h2⟩ := map_two h k
  rw [e]
  rw [Option.map_some, List.all_append, h1, h2]; rfl
theorem FnO.append {l m : List He.DefD} (h : FnO p n l M w) (k : FnO p n m M w) : FnO p n (l ++ m) M w := by
  unfold FnO at h k ⊢
  obtain ⟨x, e, h1, h2⟩ := map_two h k
  rw [e]
  rw [Option.map_some]
  rw [List.all_append, List.map_append, List.map_append]
  have a1 := congrArg Prod.fst h1
  have a2 := congrArg Prod.snd h1
  have b1 := congrArg Prod.fst h2
  have b2 := congrArg Prod.snd h2
  dsimp only at a1 a2 b1 b2
  rw [a1, a2, b1, b2]; rfl
theorem ExO.append {c d : PySem.W.Frag → List Bool} (h : ExO p n c M w) (k : ExO p n d M w) : ExO p n (fun K => c K ++ d K) M w := by
  unfold ExO at h k ⊢
  obtain ⟨x, e, h1, h2⟩ := map_two h k
  rw [e]
  rw [Option.map_some, List.all_append, h1, h2]; rfl
end
theorem run_parts {r : OpenRow} {q : Program} {n M : Nat} {fa : List He.Fa} {fn : List He.DefD} {cks : PySem.W.Frag → List Bool} {xs : List XD} {loose : List PySem.Str} {w : World} (h0 : LookO r q loose M w) (h1 : FaO r.prog n fa M w) (h2 : FnO r.prog n fn M w)
    (h3 : ExO r.prog n cks M w) (h4 : XsO r.prog n xs M w) : RunEqI r q (hookY n fa fn (fun K => (cks K).all id) xs) (fun s => obsY n fa fn (fun K => (cks K).all id) xs (getT s)) M loose w := by
  unfold LookO at h0
  unfold FaO at h1
  unfold FnO at h2
  unfold ExO at h3
  unfold XsO at h4
  unfold RunEqI
  obtain ⟨x, e, a0, a1⟩ := map_two h0 h1
  have a2 := map_of e h2
  have a3 := map_of e h3
  have a4 := map_of e h4
  have a01 := congrArg Prod.fst a0
  have a02 := congrArg Prod.snd a0
  have a21 := congrArg Prod.fst a2
  have a22 := congrArg Prod.snd a2
  dsimp only at a01 a02 a21 a22
  have fin : ((fa.all fun f => f.ok (kO n x)) && (fn.all fun d => d.ok (kO n x)), fn.map fun d => He.fnW (kO n x) d.at_) = (true, fn.map He.DefD.val) := by rw [a1, a21, a22]; rfl
  have ends : obsY n fa fn (fun K => (cks K).all id) xs (getT x.2) = valY fn xs := Prod.ext fin (Prod.ext a3 a4)
  exact (congrArg (Option.map _) e).trans (congrArg some (Prod.ext a01 (Prod.ext a02 ends)))
end Lw
/-! The Hook over a lesser part of the heap: what the top made, by levels, from its names on. -/
noncomputable section
namespace Lw
open PySem PySem.W PySem.Calls PyProof.Rows HandSHeadRun
/-- what an object names; of a class its names alone, not its kin -/
def refsN (o : Obj) : List Addr := match o.data with
  | .cls cd => [cd.ns]
  | _ => He.refsD o
def growN (g : Addr → Option Obj) : Nat → List Addr → List Addr
  | 0, _ => []
  | n + 1, fr => match fr.flatMap (fun a => match g a with
    | some o => refsN o
    | none => []) with
    | nx => nx ++ growN g n nx
def asZ (n : Nat) (g : Addr → Option Obj) : List Addr := mainGlobals :: cStatics :: growN g n [mainGlobals]
def kZ (n : Nat) (g : Addr → Option Obj) : PySem.W.Frag := He.frG g (asZ n g)
def hookZ (n : Nat) (fa : List He.Fa) (fn : List He.DefD) (cks : PySem.W.Frag → List Bool) (xs : List XD) : PySem.W.Hook where
  α := AlY
  obs := fun s => (He.obsD fa fn (kZ n s.heap.get?), (cks (kZ n s.heap.get?)).all id, xs.map fun d => XD.obs (kZ n s.heap.get?) d)
  val := fun _ => valY fn xs
  says := fun _ h => ∃ K : PySem.W.Frag, K.In h ∧ SaysY fa fn (fun K => (cks K).all id) xs K
  of := fun _ s e => ⟨_, He.frG_in, ⟨congrArg (fun z : AlY => z.1) e, congrArg (fun z : AlY => z.2.1) e, congrArg (fun z : AlY => z.2.2) e⟩⟩
  keeps := fun _ _ _ ⟨K, hK, c⟩ k => ⟨K, PySem.W.Frag.In.keeps hK k, c⟩
def obZ (n : Nat) (fa : List He.Fa) (fn : List He.DefD) (cks : PySem.W.Frag → List Bool) (xs : List XD) (s : SharedT) : AlY :=
  (He.obsD fa fn (kZ n (getT s)), (cks (kZ n (getT s))).all id, xs.map fun d => XD.obs (kZ n (getT s)) d)
theorem obZ_eq {n : Nat} {fa : List He.Fa} {fn : List He.DefD} {cks : PySem.W.Frag → List Bool} {xs : List XD} (s : SharedT) : obZ n fa fn cks xs s = (hookZ n fa fn cks xs).obs s.abs := by
  have e : getT s = s.abs.heap.get? := funext (getT_eq s)
  unfold obZ
  rw [e]; rfl
section
variable {p : Program} {n M : Nat} {w : World}
def FaZ (p : Program) (n : Nat) (fa : List He.Fa) (M : Nat) (w : World) : Prop := (runO M p w).map (fun x => fa.all fun f => f.ok (kZ n (getT x.2))) = some true
def FnZ (p : Program) (n : Nat) (fn : List He.DefD) (M : Nat) (w : World) : Prop := (runO M p w).map (fun x => (fn.all fun d => d.ok (kZ n (getT x.2)), fn.map fun d => He.fnW (kZ n (getT x.2)) d.at_)) = some (true, fn.map He.DefD.val)
def ExZ (p : Program) (n : Nat) (cks : PySem.W.Frag → List Bool) (M : Nat) (w : World) : Prop := (runO M p w).map (fun x => (cks (kZ n (getT x.2))).all id) = some true
def XsZ (p : Program) (n : Nat) (xs : List XD) (M : Nat) (w : World) : Prop := (runO M p w).map (fun x => xs.map fun d => XD.obs (kZ n (getT x.2)) d) = some (xs.map XD.val)
end
/-- all that is looked at for the walk, at once -/
def AllZ (p : Program) (n : Nat) (fa : List He.Fa) (fn : List He.DefD) (cks : PySem.W.Frag → List Bool) (xs : List XD) (M : Nat) (w : World) : Prop :=
  (runO M p w).map (fun x => match kZ n (getT x.2) with | K => (((fa.all fun f => f.ok K) && (fn.all fun d => d.ok K)) && (cks K).all id, fn.map fun d => He.fnW K d.at_, xs.map fun d => XD.obs K d)) = some (true, fn.map He.DefD.val, xs.map XD.val)
theorem run_allZ {r : OpenRow} {q : Program} {n M : Nat} {fa : List He.Fa} {fn : List He.DefD} {cks : PySem.W.Frag → List Bool} {xs : List XD} {loose : List PySem.Str} {w : World} (h0 : LookO r q loose M w) (h1 : AllZ r.prog n fa fn cks xs M w) : RunEqI r q (hookZ n fa fn cks xs) (obZ n fa fn cks xs) M loose w := by
  unfold LookO at h0
  unfold AllZ at h1
  unfold RunEqI
  obtain ⟨x, e, a0, a1⟩ := map_two h0 h1
  have a01 := congrArg Prod.fst a0
  have a02 := congrArg Prod.snd a0
  have a11 := congrArg Prod.fst a1
  have a12 := congrArg (fun z => z.2.1) a1
  have a13 := congrArg (fun z => z.2.2) a1
  dsimp only at a01 a02 a11 a12 a13
  obtain ⟨b1, b2⟩ := Bool.and_eq_true_iff.mp a11
  have fin : ((fa.all fun f => f.ok (kZ n (getT x.2))) && (fn.all fun d => d.ok (kZ n (getT x.2))), fn.map fun d => He.fnW (kZ n (getT x.2)) d.at_) = (true, fn.map He.DefD.val) := Prod.ext b1 a12
  have ends : obZ n fa fn cks xs x.2 = valY fn xs := Prod.ext fin (Prod.ext b2 a13)
  exact (congrArg (Option.map _) e).trans (congrArg some (Prod.ext a01 (Prod.ext a02 ends)))
theorem run_partsZ {r : OpenRow} {q : Program} {n M : Nat} {fa : List He.Fa} {fn : List He.DefD} {cks : PySem.W.Frag → List Bool} {xs : List XD} {loose : List PySem.Str} {w : World} (h0 : LookO r q loose M w) (h1 : FaZ r.prog n fa M w) (h2 : FnZ r.prog n fn M w)
    (h3 : ExZ r.prog n cks M w) (h4 : XsZ r.prog n xs M w) : RunEqI r q (hookZ n fa fn cks xs) (obZ n fa fn cks xs) M loose w := by
  unfold LookO at h0
  unfold FaZ at h1
  unfold FnZ at h2
  unfold ExZ at h3
  unfold XsZ at h4
  unfold RunEqI
  obtain ⟨x, e, a0, a1⟩ := map_two h0 h1
  have a2 := map_of e h2
  have a3 := map_of e h3
  have a4 := map_of e h4
  have a01 := congrArg Prod.fst a0
  have a02 := congrArg Prod.snd a0
  have a21 := congrArg Prod.fst a2
  have a22 := congrArg Prod.snd a2
  dsimp only at a01 a02 a21 a22
  have fin : ((fa.all fun f => f.ok (kZ n (getT x.2))) && (fn.all fun d => d.ok (kZ n (getT x.2))), fn.map fun d => He.fnW (kZ n (getT x.2)) d.at_) = (true, fn.map He.DefD.val) := by rw [a1, a21, a22]; rfl
  have ends : obZ n fa fn cks xs x.2 = valY fn xs := Prod.ext fin (Prod.ext a3 a4)
  exact (congrArg (Option.map _) e).trans (congrArg some (Prod.ext a01 (Prod.ext a02 ends)))
end Lw
/-! The Hook with tables of code objects. -/
noncomputable section
namespace Lw
open PySem PySem.W PySem.Calls PyProof.Rows HandSHeadRun
abbrev kT (n : Nat) (g : Addr → Option Obj) : PySem.W.Frag := He.frT g (asZ n g)
/-- what is told of the defs whose tables are told -/
structure TabsK (tf : List He.Defn) (h : Heap) (K : PySem.W.Frag) : Prop where
  hd : ∀ p ∈ tf, PySem.W.codeHdIn K (He.cT K p).1 (He.cT K p).2 = true
  out : ∀ p ∈ tf, K.lookup (He.cT K p).2 = none
  empty : ∀ p ∈ tf, h.get? (He.cT K p).2 = some { cls := .none, data := .fields #[] }
def obT (n : Nat) (fa : List He.Fa) (fn : List He.DefD) (cks : PySem.W.Frag → List Bool) (xs : List XD) (tf : List He.Defn) (g : Addr → Option Obj) : AlY :=
  (He.obsD fa fn (kT n g), (cks (kT n g)).all id && He.tabsB g tf (kT n g), xs.map fun d => XD.obs (kT n g) d)
theorem tabs_of {n : Nat} {tf : List He.Defn} {h : Heap} (e : He.tabsB h.get? tf (kT n h.get?) = true) : TabsK tf h (kT n h.get?) := by
  have key : ∀ p ∈ tf, PySem.W.codeHdIn (kT n h.get?) (He.cT (kT n h.get?) p).1 (He.cT (kT n h.get?) p).2 = true ∧ ∃ o, h.get? (He.cT (kT n h.get?) p).2 = some o ∧ He.emptyTab o = true := fun p hp => by
    obtain ⟨h3, h4⟩ := He.ba (List.all_eq_true.mp e p hp)
    refine ⟨h3, ?_⟩
    cases q : h.get? (He.cT (kT n h.get?) p).2 with
    | none =>
      rw [q] at h4
      cases h4
    | some o =>
      rw [q] at h4
      exact ⟨o, rfl, h4⟩
  refine ⟨fun p hp => (key p hp).1, fun p hp => ?_, fun p hp => ?_⟩
  · obtain ⟨_, o, q, z⟩ := key p hp
    exact He.frT_none q z
  · obtain ⟨_, o, q, z⟩ := key p hp
    rw [q, He.emptyTab_eq z]
def hookT (n : Nat) (fa : List He.Fa) (fn : List He.DefD) (cks : PySem.W.Frag → List Bool) (xs : List XD) (tf : List He.Defn) : PySem.W.Hook where
  α := AlY
  obs := fun s => obT n fa fn cks xs tf s.heap.get?
  val := fun _ => valY fn xs
  says := fun _ h => ∃ K : PySem.W.Frag, K.In h ∧ SaysY fa fn (fun K => (cks K).all id) xs K ∧ TabsK tf h K
  of := fun _ s e => by
    have h1 : ((cks (kT n s.heap.get?)).all id && He.tabsB s.heap.get? tf (kT n s.heap.get?)) = true := congrArg (fun z : AlY => z.2.1) e
    obtain ⟨h2, h3⟩ := He.ba h1
    exact ⟨_, He.frT_in, ⟨congrArg (fun z : AlY => z.1) e, h2, congrArg (fun z : AlY => z.2.2) e⟩, tabs_of h3⟩
  keeps := fun _ _ _ ⟨K, hK, c, t⟩ k => ⟨K, PySem.W.Frag.In.keeps hK k, c, t.hd, t.out, fun p hp => k _ _ (t.empty p hp)⟩
theorem obT_eq {n : Nat} {fa : List He.Fa} {fn : List He.DefD} {cks : PySem.W.Frag → List Bool} {xs : List XD} {tf : List He.Defn} (s : SharedT) : obT n fa fn cks xs tf (getT s) = (hookT n fa fn cks xs tf).obs s.abs := by
  have e : getT s = s.abs.heap.get? := funext (getT_eq s)
  rw [e]; rfl
/-- all that is looked at for the walk, at once -/
def AllT (p : Program) (n : Nat) (fa : List He.Fa) (fn : List He.DefD) (cks : PySem.W.Frag → List Bool) (xs : List XD) (tf : List He.Defn) (M : Nat) (w : World) : Prop :=
  (runO M p w).map (fun x => match kT n (getT x.2) with | K => (((fa.all fun f => f.ok K) && (fn.all fun d => d.ok K)) && ((cks K).all id && He.tabsB (getT x.2) tf K), fn.map fun d => He.fnW K d.at_, xs.map fun d => XD.obs K d)) = some (true, fn.map He.DefD.val, xs.map XD.val)
theorem run_allT {r : OpenRow} {q : Program} {n M : Nat} {fa : List He.Fa} {fn : List He.DefD} {cks : PySem.W.Frag → List Bool} {xs : List XD} {tf : List He.Defn} {loose : List PySem.Str} {w : World} (h0 : LookO r q loose M w) (h1 : AllT r.prog n fa fn cks xs tf M w) : RunEqI r q (hookT n fa fn cks xs tf) (fun s => obT n fa fn cks xs tf (getT s)) M loose w := by
  unfold LookO at h0
  unfold AllT at h1
  unfold RunEqI
  obtain ⟨x, e, a0, a1⟩ := map_two h0 h1
  have a01 := congrArg Prod.fst a0
  have a02 := congrArg Prod.snd a0
  have a11 := congrArg Prod.fst a1
  have a12 := congrArg (fun z => z.2.1) a1
  have a13 := congrArg (fun z => z.2.2) a1
  dsimp only at a01 a02 a11 a12 a13
  obtain ⟨b1, b2⟩ := Bool.and_eq_true_iff.mp a11
  have fin : ((fa.all fun f => f.ok (kT n (getT x.2))) && (fn.all fun d => d.ok (kT n (getT x.2))), fn.map fun d => He.fnW (kT n (getT x.2)) d.at_) = (true, fn.map He.DefD.val) := Prod.ext b1 a12
  have ends : obT n fa fn cks xs tf (getT x.2) = valY fn xs := Prod.ext fin (Prod.ext b2 a13)
  exact (congrArg (Option.map _) e).trans (congrArg some (Prod.ext a01 (Prod.ext a02 ends)))
end Lw
namespace K22
open PySem PySem.Spec PyProof.Rows L2 Lw
abbrev R : PySem.W.OpenRow := PySem.W.OpenLaw.row PySem.Challenge.rw_planyard_k22_rule_orders
abbrev hk : PySem.W.Hook := Lw.hookT 5 fa fn cks xs tf
abbrev ob : PySem.W.SharedT → AlY := fun s => obT 5 fa fn cks xs tf (HandSHeadRun.getT s)
theorem ob_eq (s : PySem.W.SharedT) : ob s = hk.obs s.abs := obT_eq s
theorem run_look (w : World) : LookO R (PySem.W.view R.prog [21]) names 20000 w := by
  unfold LookO
  kernel_rfl
theorem run_all (w : World) : AllT R.prog 5 fa fn cks xs tf 20000 w := by
  unfold AllT
  kernel_rfl
theorem run (w : World) : HandSHeadRun.RunEqI R (PySem.W.view R.prog [21]) hk ob 20000 names w := run_allT (run_look w) (run_all w)
end K22
/-! An own exception made where nothing is handled: its context is None. -/
namespace Lw
open PySem PySem.Spec PyProof.Rows L2
section
variable {X : Cx} {e : Expr} {es : List Expr} {ta : TA} {p pos : Pos}
theorem pmk_oexN {CXo : CXT} {x : Str} {C fI : Addr} {k : Nat} {fd : FuncData} {ps : List Str} {sp : Sp} (T : OexC X.K C) (iC : PySem.W.findIn X.K (.ref C) "__init__" = some (some (.ref fI))) (tI : PySem.W.typeIn X.K (.ref fI) = some (.type "function"))
    (F1 : FnOk X.prog X.w X.K X.mg X.base CXo k fI fd ps sp) (hr : Room (k + 1) X.A) (hb : Binds X.K fd ps []) (hx : Passes CXo X (fun _ _ _ => False)) (hg : Gl X x) (hm : X.mg x = some (.ref C)) (ha : PA X (e :: es) ta) (hdb : (x == ("__debug__" : Str)) = false := by decide)
    (he : starEach (e :: es) X.env = (false, eval e X.env) :: starEach es X.env := by rfl) (hpl : (backTo pos (starEach es X.env)).any (·.1) = false := by rfl) : L2N.PMk X (.Call (.Name x p) (e :: es) [] pos) (tMkO C sp [] ta) := by
  intro pins0 s0 σ0 H0 Q0 I0 h0
  obtain ⟨nm, qn, N0, bs0, bm0, sn0, sub0, ab0, col0, dd0, k0, k1, k2, k3, k5, hCl, hrefs⟩ := T.cls
  refine wpAny_Call_Name_kw (ld_glob I0 hg hm ?_ hdb)
  refine PySem.W.callWith_K (h₀ := X.base) I0.ok.mod.kin T.kC (thn (ha.run pos pins0 s0 σ0 H0 _ I0 h0) fun us s1 ⟨vs, H1, I1, rv, hsm, q1⟩ => ⟨I1.kIn, ?_⟩) he hpl
  show wpAny _ _ (call (.ref C) us) _ _ _
  obtain ⟨h1, gn, dr, tk, ost⟩ := s1
  have le1 : h1.objs.size ≤ h1.objs.size + 1 := Nat.le_succ _
  have fr : H1 (h1.objs.size + 1) = none := I1.hok.fresh le1
  have hq := q1 (h1.objs.size + 1) fr
  rw [List.append_nil] at hq
  have kp : ∀ b o, h1.get? b = some o → ((h1.push (PySem.W.kdv_tup us)).push (PySem.HandSPX.excO C h1.objs.size)).get? b = some o := fun b o z => Heap.get?_push_of_some _ (Heap.get?_push_of_some _ z)
  have here : ((h1.push (PySem.W.kdv_tup us)).push (PySem.HandSPX.excO C h1.objs.size)).get? (h1.objs.size + 1) = some (PySem.HandSPX.excO C h1.objs.size) := by heap_get
  have J2 : Inv X pins0 σ0 (upd H1 (h1.objs.size + 1) (exo (h1.objs.size + 1) C none)) ⟨(h1.push (PySem.W.kdv_tup us)).push (PySem.HandSPX.excO C h1.objs.size), gn, dr, tk, ost⟩ :=
    I1.laid (t' := tk) (a := h1.objs.size + 1) (o := exo (h1.objs.size + 1) C none) (h' := (h1.push (PySem.W.kdv_tup us)).push (PySem.HandSPX.excO C h1.objs.size)) kp le1 (exo_ok here)
  have rv2 : Vals (V.ref (h1.objs.size + 1) :: vs) (Value.ref (h1.objs.size + 1) :: us) := .cons rfl rv
  have len2 : (Value.ref (h1.objs.size + 1) :: us).length = ps.length := by
    rw [← rv2.length, F1.len _ _ _ _ hq]
  have fits : us.length ≤ sizeLine := by
    have := Paired.length rv
    rw [sizeLine_eq]
    omega
  have bd := hb _ (Value.ref (h1.objs.size + 1) :: us) J2.kIn (by rw [List.append_nil]; exact len2)
  rw [List.append_nil] at bd
  refine wpAny_call (PySem.HandSPX.call_own F.excBase_ValueError (fun Y => PySem.HandSPX.refsVE_contains Y bm0 hrefs) (I1.kIn _ _ hCl) (PySem.W.looks_findIn I1.kIn iC) (fun self => PySem.W.bind_fn I1.kIn self tI) fits
    (codeAny_mono (F1.run _ X.stack _ _ ⟨Value.ref (h1.objs.size + 1) :: us, []⟩ (Value.ref (h1.objs.size + 1) :: us) _ _ (fun _ _ _ => False) (hr.make C us []) (J2.env0.make C us []) bd rv2 hq) fun r s2 hq2 => ?_))
  cases r with
  | error er => exact hx pins0 σ0 _ _ er s2 J2 hq2
  | ok fl =>
    cases fl with
    | ret u =>
      obtain ⟨v2, H2, os2, bare2, un2, hok2, ru, ev2, d2, fs2, ea2, ed2, hd2, qq⟩ := hq2
      subst ev2
      obtain ⟨h2, gn2, dr2, tk2, ost2⟩ := s2
      obtain ⟨t0, G, J, kG, ge, hoe, na⟩ := mk_end0 (d2 := dr2) (t2 := tk2) I1 le1 kp un2 hok2 os2 bare2 ea2 ed2 hd2
      exact ⟨ru, h1.objs.size + 1, _, _, ⟨G, gn2, dr2, tk2, ost2⟩, _, .ref C, some d2, rfl, J, kG, ge, hoe, ⟨rfl, rfl, fun ws hw => by cases hw; rfl⟩, rfl, rfl, na, rfl, bare2, raises_own T.exC T.tyC, qq⟩
    | next => exact False.elim hq2
    | brk => exact False.elim hq2
    | cont => exact False.elim hq2
end
end Lw
/-! Rules that the modules lack: tuple * int with any small count, math.factorial, o[i] read for an augmented store. -/
namespace Lw
open PySem PySem.Spec PyProof.Rows L2
theorem tm_one (l : Addr) (items : Array Value) (n : Nat) (dd : Option Addr) (sl : Array (Option Value)) (u : Tok) :
    Meets (Builtin.«tuple.__mul__» ⟨[.ref l, .int 1 u], []⟩) (fun _ R s => s.heap.get? l = some { cls := .type "tuple", dict := dd, data := .seq items n, slots := sl } ∧ R (.ok (.ret (Value.ref l))) s) :=
  .of_wp fun prog w A R s h => by
    obtain ⟨hp, g, d, tk, os⟩ := s
    obtain ⟨hl, h⟩ := h
    have f1 := AutoSeq1.idx_int
    have c0 : (decide ((1 : Int) < -(2 ^ 63)) || decide ((1 : Int) ≥ 2 ^ 63)) = false := by decide
    have c1 : (items.isEmpty || (1 : Int) == 1) = true := by simp
    wp_walk using wpAny_loadPart' hl
    repeat (first
      | (refine wpAny_ite_false (decide_eq_false (by rw [c0]; exact Bool.false_ne_true)) ?_; wp_walk using wpAny_loadPart' hl)
      | (refine wpAny_ite_true (decide_eq_true (by rw [c1])) ?_; wp_walk using wpAny_loadPart' hl))
    exact ⟨_, rfl, h⟩
theorem tm_zero (l : Addr) (items : Array Value) (n : Nat) (dd : Option Addr) (sl : Array (Option Value)) (x : Int) (u : Tok) (c0 : (decide (x < -(2 ^ 63)) || decide (x ≥ 2 ^ 63)) = false) (c1 : (items.isEmpty || x == 1) = false) (c2 : (decide (x ≤ 0) || items.isEmpty) = true) :
    Meets (Builtin.«tuple.__mul__» ⟨[.ref l, .int x u], []⟩) (fun _ R s => s.heap.get? l = some { cls := .type "tuple", dict := dd, data := .seq items n, slots := sl } ∧
      R (.ok (.ret (Value.ref s.heap.objs.size))) { s with heap := s.heap.push { cls := Value.type "tuple", data := Data.seq #[] }, toks := s.toks }) :=
  .of_wp fun prog w A R s h => by
    obtain ⟨hp, g, d, tk, os⟩ := s
    obtain ⟨hl, h⟩ := h
    have f1 := AutoSeq1.idx_int
    wp_walk using wpAny_loadPart' hl
    repeat (first
      | (refine wpAny_ite_false (decide_eq_false (by rw [c0]; exact Bool.false_ne_true)) ?_; wp_walk using wpAny_loadPart' hl)
      | (refine wpAny_ite_false (decide_eq_false (by rw [c1]; exact Bool.false_ne_true)) ?_; wp_walk using wpAny_loadPart' hl)
      | (refine wpAny_ite_true (decide_eq_true (by rw [c2])) ?_; wp_walk using wpAny_loadPart' hl))
    exact ⟨_, rfl, h⟩
section
variable {X : Cx}
/-- t * k, k any small number -/
def rRepA (K : PySem.W.Frag) : R2 := fun x y H Q => ∃ l k xs, x = .ref l ∧ y = .int k ∧ SqT K H l xs ∧ xs ≠ [] ∧ -1000 ≤ k ∧ k ≤ 1000 ∧ xs.length ≤ 1000 ∧ (k = 1 → Q (.ref l) H) ∧ (k ≠ 1 → ∀ p, H p = none → Q (.ref p) (upd H p (.tup (List.replicate k.toNat xs).flatten)))
theorem op_repTA : OpR X (binaryOp .Mult) (rRepA X.K) := by
  intro pins s σ H x y v u Q I rx ry h
  obtain ⟨l, k, xs, rfl, rfl, hT, hne, h1, h2, hz, q1, q⟩ := h
  by_cases hk : 2 ≤ k
  · exact op_repT pins s σ H _ _ v u Q I rx ry ⟨l, k, xs, rfl, rfl, hT, hne, hk, h2, hz, q (by omega)⟩
  · cases rx
    obtain ⟨t, rfl⟩ := ry
    obtain ⟨its, r, ⟨⟨cls, dd, data, sl⟩, ho, hc, n, hd⟩, hs⟩ := I.tuple hT
    simp only at hc hd
    subst hc hd
    have hn : its.toArray.isEmpty = false := by
      cases r with
      | nil => exact absurd rfl hne
      | cons a b => rfl
    by_cases hk1 : k = 1
    · subst hk1
      exact wpAny_binaryOp_repeat_ref (T := "tuple") (U := "int") (by decide) ⟨_, ho, rfl⟩ (fun s' => typeIs_int s' 1 t) noFill_tuple_mul F.fills_int_mul F.slot_int_rmul repeat_tuple F.slot_int_index.lookup
        (call_meets F.slot_int_rmul (typeIs_int s 1 t) F.entry_int_rmul (F.args_int_rmul_2 _ _) (int_rmul_tuple 1 t l its.toArray n dd sl)
          ⟨ho, rfl, ⟨_, ho, rfl⟩, call_meets F.slot_tuple_mul ⟨_, ho, rfl⟩ F.entry_tuple_mul (F.args_tuple_mul_2 _ _) (tm_one l its.toArray n dd sl t) ⟨ho, ⟨.ref l, H, I, rfl, q1 rfl⟩⟩⟩)
    · have c0 : (decide (k < -(2 ^ 63)) || decide (k ≥ 2 ^ 63)) = false := by
        rw [decide_eq_false (by omega), decide_eq_false (by omega)] <;> rfl
      have c1 : (its.toArray.isEmpty || k == 1) = false := by
        rw [hn, Bool.false_or]
        exact beq_eq_false_iff_ne.mpr hk1
      have c2 : (decide (k ≤ 0) || its.toArray.isEmpty) = true := by
        rw [decide_eq_true (by omega : k ≤ 0)] <;> rfl
      refine wpAny_binaryOp_repeat_ref (T := "tuple") (U := "int") (by decide) ⟨_, ho, rfl⟩ (fun s' => typeIs_int s' k t) noFill_tuple_mul F.fills_int_mul F.slot_int_rmul repeat_tuple F.slot_int_index.lookup
        (call_meets F.slot_int_rmul (typeIs_int s k t) F.entry_int_rmul (F.args_int_rmul_2 _ _) (int_rmul_tuple k t l its.toArray n dd sl)
          ⟨ho, rfl, ⟨_, ho, rfl⟩, call_meets F.slot_tuple_mul ⟨_, ho, rfl⟩ F.entry_tuple_mul (F.args_tuple_mul_2 _ _) (tm_zero l its.toArray n dd sl k t c0 c1 c2) ⟨ho, ?_⟩⟩)
      have e0 : k.toNat = 0 := by omega
      have q' := q hk1
      rw [e0] at q'
      exact ⟨.ref s.heap.objs.size, _, I.laid (t' := s.toks) (o := .tup []) (fun b ob q => Heap.get?_push_of_some _ q) (Nat.le_refl _) ⟨Nat.zero_le _, [], .nil, IsTup.new _ _⟩, rfl, q' _ (I.hok.fresh (Nat.le_refl _))⟩
/-- math.factorial of a small number -/
def rFact : List V → Hp → VK → Prop := fun vs H Q => ∃ a : Int, vs = [.int a] ∧ 0 ≤ a ∧ a ≤ 12 ∧ Q (.int ((Builtin.Math.factorialNat a.toNat : Nat) : Int)) H
theorem cr_factorial : CallR X (.builtin "math.factorial") rFact := by
  intro pins s σ H vs us Q I r h
  obtain ⟨a, rfl, h0, h1, q⟩ := h
  obtain ⟨u, rfl, rr⟩ := Vals.one r
  obtain ⟨t, rfl⟩ := rr
  have e1 : Builtin.Math.maxSsize = 2 ^ 63 - 1 := rfl
  have e2 : Builtin.Math.manyFactors = 20000 := rfl
  refine PySem.W.mg_factorial (by rw [e1]; omega) (by omega) (by rw [e2]; omega) ?_ ⟨.int _, H, I.tok _, ⟨_, rfl⟩, q⟩
  have hb : ∀ n : Nat, n ≤ 12 → (((Builtin.Math.factorialNat n : Nat) : Int)).natAbs.log2 < bitsLine := by
    intro n hn
    rw [Int.natAbs_natCast]
    have : Builtin.Math.factorialNat n ≤ 479001600 := by
      rcases n with _ | _ | _ | _ | _ | _ | _ | _ | _ | _ | _ | _ | _ | n <;> first | decide | omega
    refine Nat.lt_of_le_of_lt (m := 28) ?_ (by decide)
    by_cases h0 : Builtin.Math.factorialNat n = 0
    · rw [h0]; decide
    · have := (Nat.log2_lt h0).mpr (show Builtin.Math.factorialNat n < 2 ^ 29 by omega)
      omega
  exact hb _ (by omega)
theorem pget_list : PGet X (rIxL X.K) := by
  intro pins s σ H o i ov iv Q I ro ri h
  obtain ⟨p, xs, k, v, rfl, rfl, hq, he, q⟩ := h
  cases ro
  obtain ⟨t, rfl⟩ := ri
  obtain ⟨its, r, pl, hz⟩ := I.list hq
  obtain ⟨j, h1, h2, h3, h4, h5⟩ := atI_get he
  obtain ⟨w, ew, rw'⟩ := r.get h2
  have hl := r.length
  have hn := line63
  have fin : EP X pins σ Q w s := ⟨v, H, I, rw', q⟩
  by_cases h0 : 0 ≤ k
  · have hj : k.toNat = j := by
      rw [seqIndex_of h0 h5] at h1
      exact Option.some.inj h1
    exact wpAny_getItem_list pl.isList h0 (by omega) (by rw [hj]; simpa using ew) fin
  · have hj : (k + (its.toArray.size : Int)).toNat = j := by
      rw [seqIndex_neg (by omega) h4] at h1
      rw [List.size_toArray, ← hl]
      exact Option.some.inj h1
    exact wpAny_getItem_list_neg pl.isList (by omega) (by rw [List.size_toArray] <;> omega) (by omega) (by rw [hj]; simpa using ew) fin
end
section
variable {K : PySem.W.Frag} {env : Env K} {os : Os} {ta tb te : TE} {α : Type} [iα : Py K α]
theorem paired_rep {F : V → α → Prop} {vs : List V} {xs : List α} (r : Paired F vs xs) : ∀ k : Nat, Paired F (List.replicate k vs).flatten (List.replicate k xs).flatten
  | 0 => .nil
  | k + 1 => by
    rw [List.replicate_succ, List.replicate_succ, List.flatten_cons, List.flatten_cons]
    exact paired_append r (paired_rep r k)
theorem ev_repT {xs : Tup α} {k : Int} (ha : Ev ta env os xs) (hb : Ev tb env os k) (hx : xs.l ≠ [] ∧ xs.l.length ≤ 1000) (hk : -1000 ≤ k ∧ k ≤ 1000) : Ev (tOp (rRepA K) ta tb) env os (Tup.mk (List.replicate k.toNat xs.l).flatten) := fun {b g h' σ Q} s q =>
  ha s fun v g1 h1 l1 r1 => hb (s.le l1) fun w g2 h2 l2 r2 => by
    obtain ⟨a, vs, rfl, h3, h4⟩ := r1
    cases r2
    have h3' := l2.gg _ _ h3
    have h4' := pr_mono l2.gg h4
    refine ⟨a, k, vs, rfl, rfl, same_tup l2.gh h3', fun e => hx.1 ?_, hk.1, hk.2, by rw [h4.length]; exact hx.2, fun e => ?_, fun _ p hp => ?_⟩
    · have := h4.length
      rw [e] at this
      exact List.eq_nil_of_length_eq_zero this.symm
    · subst e
      refine q _ _ _ (l1.trans l2) ⟨a, vs, rfl, h3', ?_⟩
      show Paired _ vs (List.replicate 1 xs.l).flatten
      simpa using h4'
    · exact q _ (upd g2 p (.tup (List.replicate k.toNat vs).flatten)) _ ((l1.trans l2).trans (Le.laid l2.gh hp)) ⟨p, _, rfl, upd_same, pr_mono (Le.laid l2.gh hp).gg (paired_rep h4' _)⟩
theorem ev_fact {x : Int} (ha : Ev ta env os x) (hx : 0 ≤ x ∧ x ≤ 12) : Ev (tCB rFact (tCons ta tNil)) env os ((Builtin.Math.factorialNat x.toNat : Nat) : Int) := ev_cb1 ha fun v g h e r Q q => by
  cases r
  exact ⟨x, rfl, hx.1, hx.2, q _ g h (Le.refl e) rfl⟩
variable {b : Bs} {g h : Hp} {σ : L2.St} {D : Ends} {i : Nat}
/-- x[k] += e on an owned list of ints -/
theorem st_augO {m : Nat} {l : Addr} {xs : List Int} {f : Int → Int → Int} {n x y : Int} (s : S0 b g h σ env os) (hx : env[i]? = some (.val V inferInstance (V.ref l))) (ho : os[m]? = some (l, Own.lst K xs)) (hb : Ev tb env os n) (h0 : 0 ≤ n) (h1 : n < xs.length) (hn : xs[n.toNat]? = some x) (e : Ev te env os y)
    (k : ∀ g' h', S0 b g' h' σ env (os.set m (l, Own.lst K (xs.set n.toNat (f x y)))) → D.nx σ h') : tAugS (tVar i) tb te (rIxL K) (ipI f) rSetL D σ h := by
  unfold tAugS
  refine ev_var hx s fun v g1 h1' l1 r1 => hb (s.le l1) fun w g2 h2 l2 r2 => ?_
  cases r1
  have s2 := (s.le l1).le l2
  obtain ⟨vs, e2, p2⟩ := own_seq s2 ho
  have hat : atI xs n = some x := by unfold atI; rw [ixN_eq h0 h1]; exact hn
  obtain ⟨z, ez, rz⟩ := atI_map p2 hat
  refine ⟨l, vs, n, z, rfl, r2, SqL.of e2, ez, e s2 fun w3 g3 h3 l3 r3 => ⟨x, y, rz, r3, ?_⟩⟩
  have s3 := s2.le l3
  obtain ⟨ws, e3, p3⟩ := own_seq s3 ho
  have rz3 : Py.R (K := K) g3 (V.int (f x y)) (f x y) := rfl
  exact ⟨l, ws, n, n.toNat, rfl, r2, e3, ixN_eq h0 (by rw [p3.length]; exact h1), k g3 _ (s3.put (w' := Own.lst K (xs.set n.toNat (f x y))) ho ⟨_, rfl, paired_set rz3 _ p3⟩)⟩
end
end Lw
/-! zip, several targets. -/
namespace Lw
open PySem PySem.Spec PyProof.Rows L2 RZ
section
variable {K : PySem.W.Frag} {env : Env K} {os : Os} {ta tb te : TE} {α β γ : Type} [iα : Py K α] [iβ : Py K β] [iγ : Py K γ]
variable {b : Bs} {g h : Hp} {σ : L2.St} {D : Ends} {i j : Nat}
theorem st_tgt {gt : TG} {ws : List Nat} {f : Env K → α → Env K} {x : α} (hg : TgtF (K := K) gt ws f) (s : S0 b g h σ env os) (e : Ev te env os x) (k : ∀ g' h' σ', S0 b g' h' σ' (f env x) os → D.nx σ' h') : tAsg te gt D σ h :=
  e s fun v g' h' l r => hg (s.le l) r fun σ2 _ s2 => k g' h' σ2 s2
theorem st_par {x : α} {y : β} (s : S0 b g h σ env os) (e1 : Ev ta env os x) (e2 : Ev tb env os y) (k : ∀ v w g' h', S0 b g' h' ((σ.set i (some v)).set j (some w)) ((env.set i (sv x)).set j (sv y)) os → D.nx ((σ.set i (some v)).set j (some w)) h') : tPar i j (tCons ta (tCons tb tNil)) D σ h :=
  e1 s fun v g1 h1 l1 r1 => e2 (s.le l1) fun w g2 h2 l2 r2 => ⟨v, w, rfl, k v w g2 h2 ((((s.le l1).le l2).set (t := sv x) ⟨v, rfl, iα.mono l2.gg r1⟩).set (t := sv y) ⟨w, rfl, r2⟩)⟩
theorem st_for_zipT {tbd : TS} {gt : TG} {ws : List Nat} {f : Env K → α × β → Env K} {xs : Tup α} {ys : Tup β} (hg : TgtF (K := K) gt ws f) (s : S0 b g h σ env os) (ea : Ev ta env os xs) (eb : Ev tb env os ys) (hl : xs.l.length = ys.l.length) (I : Nat → Env K → Os → Prop) (h0 : I 0 env os)
    (hs : ∀ n x y, xs.l[n]? = some x → ys.l[n]? = some y → Turn1 b D tbd I n (fun e => f e (x, y))) (hd : ∀ env' os' g' h' σ', I xs.l.length env' os' → S0 b g' h' σ' env' os' → D.nx σ' h') : tFor (iZipA K (tCons ta (tCons tb tNil))) gt tbd D σ h := by
  refine ea s fun v g1 h1 l1 r1 => eb (s.le l1) fun w g2 h2 l2 r2 => ?_
  obtain ⟨a, us, rfl, hq, hp⟩ := r1
  obtain ⟨a', ws', rfl, hq', hp'⟩ := r2
  have hq2 := l2.gg _ _ hq
  have hp2 := pr_mono l2.gg hp
  refine ⟨a, a', us, ws', rfl, .inr ⟨same_tup l2.gh hq2, same_tup l2.gh hq', ?_⟩⟩
  refine for_zipT (K := K) (a := a) (b := a') (xs := us) (ys := ws') (by rw [hp.length, hp'.length]; exact hl) (fun n σ' h' => ∃ g' env' os', Same g2 g' ∧ I n env' os' ∧ S0 b g' h' σ' env' os') ⟨g2, env, os, Same.refl _, h0, (s.le l1).le l2⟩
    (fun n σ' h' ⟨g', _, _, e1, _, s'⟩ => ⟨same_tup (e1.trans s'.gh) hq2, same_tup (e1.trans s'.gh) hq'⟩) ?_ ?_
  · rintro n x y T σ' h' hx hy ⟨g', env', os', e1, hI, s'⟩ hT
    obtain ⟨x', hx', rx⟩ := paired_getL hp2 hx
    obtain ⟨y', hy', ry⟩ := paired_getL hp' hy
    have ld : Le g' h' (upd g' T (.tup [x, y])) (upd h' T (.tup [x, y])) := Le.laid s'.gh hT
    have rp : (instPair (K := K) (α := α) (β := β)).R (upd g' T (.tup [x, y])) (.ref T) (x', y') := ⟨T, x, y, rfl, upd_same, iα.mono (e1.trans ld.gg) rx, iβ.mono (e1.trans ld.gg) ry⟩
    exact turn1_go hg (hs n x' y' hx' hy') hI (s'.le ld) rp fun env2 os2 g3 h3 σ2 e2 hI2 s2 => ⟨g3, env2, os2, (e1.trans ld.gg).trans e2, hI2, s2⟩
  · rintro σ' h' ⟨g', env', os', e1, hI, s'⟩
    rw [hp.length] at hI
    exact hd env' os' g' h' σ' hI s'
end
section
variable {X : Cx}
theorem sumT_raw {prog : Program} {w : World} {A : Around} {E : Value → Shared → Prop} {s : Shared} {l : Addr} {its : List Value} {ns : List Int} {Q : Value → Shared → Prop} (hh : A.handled = none) (hl : s.heap.IsTuple l its.toArray) (hi : IntsAre its ns)
    (h : ∀ h' tk t', (∀ b o, s.heap.get? b = some o → h'.get? b = some o) → Q (.int ns.sum t') { s with heap := h', toks := tk }) : wpAny (model prog w) A (call (.builtin "sum") [.ref l]) Q E s := by
  obtain ⟨xs, e⟩ := hi.allInts.items
  have hn : numsOf (intItems xs).toList = ns := by rw [← e]; exact hi.numsOf
  rw [nums_intItems] at hn
  rw [e] at hl
  refine PySem.W.ktm_sumG hh hl fun h' tk t' hk => ?_
  have := h h' tk t' hk
  rw [preSum_eq, List.take_of_length_le (by simp), hn]; exact this
def rSumT (K : PySem.W.Frag) : List V → Hp → VK → Prop := fun vs H Q => ∃ (a : Addr) (ns : List Int), vs = [V.ref a] ∧ SqT K H a (ns.map V.int) ∧ Q (.int ns.sum) H
theorem cr_sumT (hc : X.calm = true) : CallR X (.builtin "sum") (rSumT X.K) := by
  intro pins s σ H vs us Q I r h
  obtain ⟨a, ns, rfl, hs, q⟩ := h
  obtain rfl := Vals.ref1 r
  obtain ⟨its, rr, p, hz⟩ := I.tuple hs
  exact sumT_raw (I.ok.hd hc) p rr.ints fun h' tk t' k => ⟨.int ns.sum, H, I.kept k, ⟨_, rfl⟩, q⟩
end
section
variable {K : PySem.W.Frag} {env : Env K} {os : Os} {ta tb te : TE} {α : Type} [iα : Py K α]
theorem ev_sumT {xs : Tup Int} (ha : Ev ta env os xs) : Ev (tCB (rSumT K) (tCons ta tNil)) env os xs.l.sum := ev_cb1 ha fun v g h e r Q q => by
  obtain ⟨a, vs, rfl, h1, h2⟩ := r
  refine ⟨a, xs.l, rfl, ?_, q _ g h (Le.refl e) rfl⟩
  rw [← paired_eq h2]
  exact same_tup e h1
/-- [..] * k -/
theorem en_repL {tl : TA} {xs : List α} {k : Int} (el : EvL tl env os xs) (hb : Ev tb env os k) (hx : xs.length ≤ 1000) (hk : 0 ≤ k ∧ k ≤ 1000) : EvN (tOp rRep (tLst tl) tb) env os (List.replicate k.toNat xs).flatten := fun {b g h σ Q} s q =>
  el s fun vs g1 h1 l1 r1 => ⟨by rw [r1.length]; exact Nat.le_trans hx (by decide), fun p hp => by
    have ld : Le g1 h1 (upd g1 p (.lst vs)) (upd h1 p (.lst vs)) := Le.laid l1.gh hp
    refine hb ((s.le l1).le ld) fun w g2 h2 l2 r2 => ?_
    cases r2
    refine ⟨p, k, vs, rfl, rfl, l2.hh _ _ upd_same, by omega, by omega, ?_, fun p' hp' => ?_⟩
    · have : vs.length * k.toNat ≤ 1000 * 1000 := Nat.mul_le_mul (by rw [r1.length]; exact hx) (by omega)
      exact Nat.le_trans this (by decide)
    · exact q p' (List.replicate k.toNat vs).flatten g2 h2 ((l1.trans ld).trans l2) hp' (pr_mono (ld.gg.trans l2.gg) (paired_rep r1 _))⟩
end
end Lw
/-! isinstance, == at any depth, list + list, extend, in. -/
namespace Lw
open PySem PySem.Spec PyProof.Rows L2
/-! ### types by name -/
class PyT (K : PySem.W.Frag) (α : Type) [i : Py K α] (nm : outParam String) where
  ty : ∀ {g h : Hp} {v : V} {x : α}, Same g h → i.R g v x → TyX K h v (.type nm)
section
variable {K : PySem.W.Frag} {α β : Type} [iα : Py K α] [iβ : Py K β]
theorem tyx_list {h : Hp} {a : Addr} {vs : List V} (q : SqL K h a vs) : TyX K h (.ref a) (.type "list") := by
  rcases q with (q | ⟨o, q⟩) | ⟨o, its, n, q, c, _⟩
  · exact .base (.lst q)
  · exact .base (.frz q)
  · exact .kList q c
theorem tyx_tup {h : Hp} {a : Addr} {vs : List V} (q : SqT K h a vs) : TyX K h (.ref a) (.type "tuple") := by
  rcases q with (q | ⟨o, q⟩) | ⟨o, its, n, q, c, _⟩
  · exact .base (.tup q)
  · exact .fTuple q
  · exact .kTuple q c
instance : PyT K Int "int" := ⟨fun _ r => by cases r; exact .base (.int _)⟩
instance : PyT K Bool "bool" := ⟨fun _ r => by cases r; exact .base (.bl _)⟩
instance : PyT K Str "str" := ⟨fun _ r => by cases r; exact .base (.str _)⟩
instance : PyT K Unit "NoneType" := ⟨fun _ r => by cases r; exact .base .non⟩
instance : PyT K (List α) "list" := ⟨fun e r => by obtain ⟨a, vs, rfl, q, _⟩ := r; exact tyx_list (e.seq q)⟩
instance : PyT K (Tup α) "tuple" := ⟨fun e r => by obtain ⟨a, vs, rfl, q, _⟩ := r; exact tyx_tup (same_tup e q)⟩
instance : PyT K (α × β) "tuple" := ⟨fun e r => by obtain ⟨a, u, w, rfl, q, _⟩ := r; exact tyx_tup (same_tup e q)⟩
end
/-! ### data for == -/
class PyD (K : PySem.W.Frag) (α : Type) [i : Py K α] (dep : outParam Nat) where
  d : α → PyData
  ok : α → Prop
  dp : ∀ {g h : Hp} {v : V} {x : α}, Same g h → i.R g v x → Dp K h v (d x)
  lay : ∀ {x : α}, ok x → (d x).canLay0 = true
  deep : ∀ x : α, (d x).depth ≤ dep
  eq : ∀ {x y : α}, PyData.eqv (d x) (d y) = true ↔ x = y
section
variable {K : PySem.W.Frag}
instance : PyD K Int 0 := ⟨.int, fun _ => True, fun _ r => by cases r; exact .int _, fun _ => rfl, fun _ => Nat.le_refl _, fun {x y} => by show (x == y) = true ↔ _; exact beq_iff_eq⟩
instance : PyD K Bool 0 := ⟨.bool, fun _ => True, fun _ r => by cases r; exact .bl _, fun _ => rfl, fun _ => Nat.le_refl _, fun {x y} => by show (x == y) = true ↔ _; exact beq_iff_eq⟩
instance : PyD K Str 0 := ⟨.str, fun x => x.cps.all (· < 0x110000) = true, fun _ r => by cases r; exact .str _, fun h => h, fun _ => Nat.le_refl _, fun {x y} => by show (x == y) = true ↔ _; exact beq_iff_eq⟩
variable {α β : Type} [iα : Py K α] {nα nβ : Nat} [dα : PyD K α nα] [iβ : Py K β] [dβ : PyD K β nβ]
theorem dp_all {g h : Hp} (e : Same g h) : ∀ {vs : List V} {xs : List α}, Paired (iα.R g) vs xs → DpAll K h vs (xs.map dα.d)
  | _, _, .nil => .nil
  | _, _, .cons r t => .cons (dα.dp e r) (dp_all e t)
theorem lay_all : ∀ {xs : List α}, (∀ x ∈ xs, dα.ok x) → PyData.canLayAll0 (xs.map dα.d) = true
  | [], _ => rfl
  | x :: xs, h => by
    show ((dα.d x).canLay0 && PyData.canLayAll0 (xs.map dα.d)) = true
    rw [dα.lay (h x List.mem_cons_self), lay_all fun y hy => h y (List.mem_cons_of_mem _ hy)]; rfl
theorem deep_all : ∀ {xs : List α}, PyData.depthAll (xs.map dα.d) ≤ nα
  | [] => Nat.zero_le _
  | x :: xs => Nat.max_le.mpr ⟨dα.deep x, deep_all⟩
theorem eq_all : ∀ {xs ys : List α}, PyData.eqvAll (xs.map dα.d) (ys.map dα.d) = true ↔ xs = ys
  | [], [] => by show true = true ↔ _; simp
  | [], y :: ys => by show false = true ↔ _; simp
  | x :: xs, [] => by show false = true ↔ _; simp
  | x :: xs, y :: ys => by
    show (PyData.eqv (dα.d x) (dα.d y) && PyData.eqvAll (xs.map dα.d) (ys.map dα.d)) = true ↔ _
    rw [Bool.and_eq_true, dα.eq, eq_all]
    simp
instance : PyD K (List α) (nα + 1) where
  d xs := .list (xs.map dα.d)
  ok xs := ∀ x ∈ xs, dα.ok x
  dp e r := by obtain ⟨a, vs, rfl, q, p⟩ := r; exact .lst (e.seq q) (dp_all e p)
  lay h := lay_all h
  deep xs := Nat.succ_le_succ deep_all
  eq := eq_all
theorem tup_eq {x y : Tup α} : x.l = y.l ↔ x = y := by cases x; cases y; simp
instance : PyD K (Tup α) (nα + 1) where
  d xs := .tuple (xs.l.map dα.d)
  ok xs := ∀ x ∈ xs.l, dα.ok x
  dp e r := by obtain ⟨a, vs, rfl, q, p⟩ := r; exact .tup (same_tup e q) (dp_all e p)
  lay h := lay_all h
  deep xs := Nat.succ_le_succ deep_all
  eq := eq_all.trans tup_eq
instance : PyD K (α × β) (max nα nβ + 1) where
  d x := .tuple [dα.d x.1, dβ.d x.2]
  ok x := dα.ok x.1 ∧ dβ.ok x.2
  dp e r := by obtain ⟨a, u, w, rfl, q, p1, p2⟩ := r; exact .tup (same_tup e q) (.cons (dα.dp e p1) (.cons (dβ.dp e p2) .nil))
  lay {x} h := by
    show ((dα.d x.1).canLay0 && ((dβ.d x.2).canLay0 && true)) = true
    rw [dα.lay h.1, dβ.lay h.2]; rfl
  deep x := by
    have h1 := dα.deep x.1
    have h2 := dβ.deep x.2
    show max (dα.d x.1).depth (max (dβ.d x.2).depth 0) + 1 ≤ _
    omega
  eq {x y} := by
    show (PyData.eqv (dα.d x.1) (dα.d y.1) && (PyData.eqv (dβ.d x.2) (dβ.d y.2) && true)) = true ↔ _
    rw [Bool.and_true, Bool.and_eq_true, dα.eq, dβ.eq]
    cases x; cases y; simp
end
section
variable {K : PySem.W.Frag} {env : Env K} {os : Os} {ta tb te tx tl : TE} {α β γ : Type} [iα : Py K α] [iβ : Py K β] [iγ : Py K γ]
variable {b : Bs} {g h : Hp} {σ : L2.St} {D : Ends} {i j : Nat}
theorem ev_isi {x : α} {c : Bool} {T T0 : String} [t : PyT K α T0] (ha : Ev ta env os x) (hk : kitB T0 T = some c := by decide +kernel) : Ev (tCB (rIsi K) (tCons ta (tCons (tC (.ty T)) tNil))) env os c := fun {b g h σ Q} s q =>
  ha s fun v g1 h1 l1 r1 => ⟨v, .ty T, _, _, c, rfl, .ty T, t.ty l1.gh r1, kit_ty hk, q _ _ _ l1 rfl⟩
theorem shaped_of {n : Nat} [d : PyD K α n] {x : α} (h : d.ok x) (hd : n ≤ 64) : SeqAt.shaped (d.d x) = true := by
  unfold SeqAt.shaped
  rw [d.lay h, decide_eq_true (Nat.le_trans (d.deep x) hd)]; rfl
theorem ev_eqD {n : Nat} [d : PyD K α n] {x y : α} {c : Bool} (ha : Ev ta env os x) (hb : Ev tb env os y) (hc : c = true ↔ x = y) (ox : d.ok x := by first | exact trivial | exact ⟨trivial, trivial⟩ | exact fun _ _ => trivial | exact fun _ _ => ⟨trivial, trivial⟩) (oy : d.ok y := by first | exact trivial | exact ⟨trivial, trivial⟩ | exact fun _ _ => trivial | exact fun _ _ => ⟨trivial, trivial⟩) (hd : n ≤ 64 := by decide) : Ev (tOp (rEqD K) ta tb) env os c := fun {b g h σ Q} s q =>
  ha s fun v g1 h1 l1 r1 => hb (s.le l1) fun w g2 h2 l2 r2 => by
    have e : PyData.eqv (d.d x) (d.d y) = c := by
      cases c with
      | true => exact d.eq.mpr (hc.mp rfl)
      | false =>
        cases q : PyData.eqv (d.d x) (d.d y) with
        | false => rfl
        | true => exact (hc.mpr (d.eq.mp q)).symm ▸ rfl
    exact ⟨_, _, d.dp (l2.gg.trans l2.gh) r1, d.dp l2.gh r2, shaped_of ox hd, shaped_of oy hd, by rw [e]; exact q _ _ _ (l1.trans l2) rfl⟩
theorem ev_neD {n : Nat} [d : PyD K α n] {x y : α} {c : Bool} (ha : Ev ta env os x) (hb : Ev tb env os y) (hc : c = true ↔ x = y) (ox : d.ok x := by first | exact trivial | exact ⟨trivial, trivial⟩ | exact fun _ _ => trivial | exact fun _ _ => ⟨trivial, trivial⟩) (oy : d.ok y := by first | exact trivial | exact ⟨trivial, trivial⟩ | exact fun _ _ => trivial | exact fun _ _ => ⟨trivial, trivial⟩) (hd : n ≤ 64 := by decide) : Ev (tOp (rNeD K) ta tb) env os (!c) := fun {b g h σ Q} s q =>
  ha s fun v g1 h1 l1 r1 => hb (s.le l1) fun w g2 h2 l2 r2 => by
    have e : PyData.eqv (d.d x) (d.d y) = c := by
      cases c with
      | true => exact d.eq.mpr (hc.mp rfl)
      | false =>
        cases q : PyData.eqv (d.d x) (d.d y) with
        | false => rfl
        | true => exact (hc.mpr (d.eq.mp q)).symm ▸ rfl
    exact ⟨_, _, d.dp (l2.gg.trans l2.gh) r1, d.dp l2.gh r2, shaped_of ox hd, shaped_of oy hd, by rw [e]; exact q _ _ _ (l1.trans l2) rfl⟩
/-- a pair, looked at as a tuple of items that are alike -/
theorem ev_tupP {x : α × α} (ha : Ev ta env os x) : Ev ta env os (Tup.mk [x.1, x.2]) := fun {b g h σ Q} s q =>
  ha s fun v g1 h1 l1 r1 => q v g1 h1 l1 (by
    obtain ⟨a, u, w, rfl, h3, h4, h5⟩ := r1
    exact ⟨a, [u, w], rfl, h3, .cons h4 (.cons h5 .nil)⟩)
/-- a list that stands as an object of its own: new, or owned -/
def EvH (te : TE) (env : Env K) (os : Os) (xs : List α) : Prop :=
  ∀ {b : Bs} {g h : Hp} {σ : L2.St} {Q : VK}, S0 b g h σ env os → (∀ l vs g' h', Le g h g' h' → h' l = some (.lst vs) → Paired (iα.R g') vs xs → Q (.ref l) h') → te σ h Q
theorem EvN.held {xs : List α} (hn : EvN te env os xs) : EvH te env os xs := fun {b g h σ Q} s q =>
  hn s fun l vs g1 h1 l1 hl p => q l vs g1 _ ⟨l1.gg, fun a o z => by
    have := l1.hh a o z
    rw [upd_ne (ne_of_none this hl)]; exact this, fun a o z => by
    have := l1.gh a o z
    rw [upd_ne (ne_of_none this hl)]; exact this, l1.new⟩ upd_same p
theorem eh_own {m : Nat} {l : Addr} {xs : List α} (hx : env[i]? = some (.val V inferInstance (V.ref l))) (ho : os[m]? = some (l, Own.lst K xs)) : EvH (tVar i) env os xs := fun {b g h σ Q} s q =>
  ev_var hx s fun v g1 h1 l1 r1 => by
    cases r1
    obtain ⟨vs, e, p⟩ := own_seq (s.le l1) ho
    exact q l vs g1 h1 l1 e p
theorem en_slL {xs : List α} {lo hi : Option Int} {tl th : TO} (ha : Ev ta env os xs) (h1 : EvO tl env os lo) (h2 : EvO th env os hi) : EvN (tSl (rSlL K) ta tl th) env os (cut xs lo hi) := fun {b g h' σ Q} s q =>
  ha s fun v g1 h3 l1 r1 => h1 (s.le l1) fun g2 h4 l2 => h2 ((s.le l1).le l2) fun g3 h5 l3 => by
    obtain ⟨a, vs, rfl, h6, h7⟩ := r1
    have l := l2.trans l3
    exact ⟨a, vs, rfl, (l.gg.trans l.gh).seq h6, fun p hp => q p (cutV vs lo hi) g3 h5 (l1.trans l) hp (pr_mono l.gg (paired_cut h7))⟩
theorem en_cat {xs ys : List α} (ha : EvH ta env os xs) (hb : EvH tb env os ys) (hl : xs.length + ys.length ≤ 1000000) : EvN (tOp rCat ta tb) env os (xs ++ ys) := fun {b g h σ Q} s q =>
  ha s fun l vs g1 h1 l1 e1 p1 => hb (s.le l1) fun l' ws g2 h2 l2 e2 p2 =>
    ⟨l, l', vs, ws, rfl, rfl, l2.hh _ _ e1, e2, by rw [p1.length, p2.length]; exact Nat.le_trans hl (by decide), fun p hp => q p _ g2 h2 (l1.trans l2) hp (paired_append (pr_mono l2.gg p1) p2)⟩
/-- x.extend(e) -/
theorem st_extend {m : Nat} {l : Addr} {xs ys : List α} (s : S0 b g h σ env os) (hx : env[i]? = some (.val V inferInstance (V.ref l))) (ho : os[m]? = some (l, Own.lst K xs)) (hl : xs.length + ys.length ≤ 1000000) (e : EvH te env os ys)
    (k : ∀ g' h', S0 b g' h' σ env (os.set m (l, Own.lst K (xs ++ ys))) → D.nx σ h') : tDrop (tBM K "list" rExtend (tVar i) (tCons te tNil)) D σ h := by
  unfold tDrop tBM
  refine ev_var hx s fun v g1 h1 l1 r1 => ?_
  cases r1
  have s1 := s.le l1
  obtain ⟨vs, e1, p1⟩ := own_seq s1 ho
  refine ⟨.inl ⟨rfl, vs, SqL.of e1⟩, e s1 fun l' zs g2 h2 l2 ez pz => ?_⟩
  have s2 := s1.le l2
  obtain ⟨ws, e2, p2⟩ := own_seq s2 ho
  exact ⟨l, l', ws, zs, rfl, rfl, e2, ez, by rw [p2.length, pz.length]; exact Nat.le_trans hl (by decide), k g2 _ (s2.put (w' := Own.lst K (xs ++ ys)) ho ⟨_, rfl, paired_append p2 pz⟩)⟩
/-! ### in -/
theorem inV_ints {x : Int} {xs : List Int} : inV (.int x) (xs.map V.int) = decide (x ∈ xs) := by
  unfold inV
  rw [List.any_map]
  by_cases h : x ∈ xs
  · rw [decide_eq_true h]
    exact List.any_eq_true.mpr ⟨x, h, by show (x == x) = true; exact beq_self_eq_true x⟩
  · rw [decide_eq_false h]
    exact List.any_eq_false.mpr fun y hy => by
      show ¬ (y == x) = true
      rw [beq_iff_eq]
      rintro rfl
      exact h hy
theorem flat_ints {xs : List Int} : (xs.map V.int).all flatV = true := by rw [List.all_map]; exact List.all_eq_true.mpr fun _ _ => rfl
theorem ev_inTI {x : Int} {xs : Tup Int} (ha : Ev ta env os x) (hb : Ev tb env os xs) : Ev (tOp (rIn K false) ta tb) env os (decide (x ∈ xs.l)) := fun {b g h σ Q} s q =>
  ha s fun v g1 h1 l1 r1 => hb (s.le l1) fun w g2 h2 l2 r2 => by
    cases r1
    obtain ⟨a, vs, rfl, h3, h4⟩ := r2
    have e := paired_eq h4
    subst e
    exact ⟨a, _, rfl, .inr (same_tup l2.gh h3), rfl, flat_ints, by rw [inV_ints]; exact q _ _ _ (l1.trans l2) rfl⟩
theorem ev_niTI {x : Int} {xs : Tup Int} (ha : Ev ta env os x) (hb : Ev tb env os xs) : Ev (tOp (rIn K true) ta tb) env os (!decide (x ∈ xs.l)) := fun {b g h σ Q} s q =>
  ha s fun v g1 h1 l1 r1 => hb (s.le l1) fun w g2 h2 l2 r2 => by
    cases r1
    obtain ⟨a, vs, rfl, h3, h4⟩ := r2
    have e := paired_eq h4
    subst e
    exact ⟨a, _, rfl, .inr (same_tup l2.gh h3), rfl, flat_ints, by rw [inV_ints]; exact q _ _ _ (l1.trans l2) rfl⟩
end
end Lw
/-! The rules that name the written part, with its name told: they stand within a comprehension's block too. -/
namespace Lw
open PySem PySem.Spec PyProof.Rows L2
section
variable {X : Cx} (K : PySem.W.Frag)
theorem ix_listK (h : X.K = K := by rfl) : IxR X (rIxL K) := h ▸ ix_list
theorem ix_tupK (h : X.K = K := by rfl) : IxR X (rIxT K) := h ▸ ix_tup
theorem sl_listK (h : X.K = K := by rfl) : SlR X (rSlL K) := h ▸ sl_list
theorem sl_tupAK (h : X.K = K := by rfl) : SlR X (rSlA K) := h ▸ sl_tupA
theorem op_catAK (h : X.K = K := by rfl) : OpR X (binaryOp .Add) (rCatA K) := h ▸ op_catA
theorem op_repTAK (h : X.K = K := by rfl) : OpR X (binaryOp .Mult) (rRepA K) := h ▸ op_repTA
theorem len_seqK (h : X.K = K := by rfl) : CallR X (.builtin "len") (fun xs H Q => ∃ p ys, xs = [.ref p] ∧ (SqL K H p ys ∨ SqT K H p ys) ∧ Q (.int ys.length) H) := h ▸ call_len_seq
theorem list_ofK (h : X.K = K := by rfl) : CallR X (.type "list") (fun xs H Q => ∃ p ys, xs = [.ref p] ∧ (SqL K H p ys ∨ SqT K H p ys) ∧ ∀ l, H l = none → Q (.ref l) (upd H l (.lst ys))) := h ▸ call_list_of
theorem tuple_ofK (h : X.K = K := by rfl) : CallR X (.type "tuple") (fun xs H Q => ∃ p ys, xs = [.ref p] ∧ ((SqL K H p ys ∧ ∀ l, H l = none → Q (.ref l) (upd H l (.tup ys))) ∨ (SqT K H p ys ∧ Q (.ref p) H))) := h ▸ call_tuple_of
theorem sumK (hc : X.calm = true := by rfl) (h : X.K = K := by rfl) : CallR X (.builtin "sum") (rSum K) := h ▸ cr_sum hc
theorem sumTK (hc : X.calm = true := by rfl) (h : X.K = K := by rfl) : CallR X (.builtin "sum") (rSumT K) := h ▸ cr_sumT hc
theorem anyK (hc : X.calm = true := by rfl) (h : X.K = K := by rfl) : CallR X (.builtin "any") (rAny K) := h ▸ cr_any hc
theorem allK (hc : X.calm = true := by rfl) (h : X.K = K := by rfl) : CallR X (.builtin "all") (rAll K) := h ▸ cr_all hc
theorem in_seqK (h : X.K = K := by rfl) : OpR X (compareOp .In) (rIn K false) := h ▸ op_in_seq
theorem ni_seqK (h : X.K = K := by rfl) : OpR X (compareOp .NotIn) (rIn K true) := h ▸ op_notIn_seq
theorem eqDK (hu : X.A.units + 64 < cLine) (h : X.K = K := by rfl) : OpR X (compareOp .Eq) (rEqD K) := h ▸ op_eqD hu
theorem neDK (hu : X.A.units + 64 < cLine) (h : X.K = K := by rfl) : OpR X (compareOp .NotEq) (rNeD K) := h ▸ op_neD hu
theorem isiK (h : X.K = K := by rfl) : CallR X (.builtin "isinstance") (rIsi K) := h ▸ call_isi
theorem pget_listK (h : X.K = K := by rfl) : PGet X (rIxL K) := h ▸ pget_list
theorem pi_listK {tg l : Expr} {tl : TE} (hl : PE X l tl) (h : X.K = K := by rfl) : PI X tg l (iList K tl) := h ▸ pi_list hl
theorem pi_tupK {tg l : Expr} {tl : TE} (hl : PE X l tl) (h : X.K = K := by rfl) : PI X tg l (iTup K tl) := h ▸ pi_tup hl
theorem pt_truthK {a : Expr} {ta : TE} (ha : PE X a ta) (he : ∀ whole, isTrue a X.env whole = (do let v ← whole; standAt a.pos; holding [v] (truthy v)) := by intro _; rfl) (h : X.K = K := by rfl) : PT X a (fun σ H Q => ta σ H fun x H' => ∃ k, TruV K x H' k ∧ Q k H') := h ▸ pt_truth ha he
theorem pg_tupK {es : List Expr} {k : Nat} {t : TGs} {n : Nat} {pos : Pos} (hc : X.calm = true) (hp : PGs X es t) (hn : (assignEach es X.env).length = n := by rfl) (hst : (assignEach es X.env).findIdx? (·.1) = none := by rfl) (h : X.K = K := by rfl) : PG X (.Tuple es k pos) (gTup K n t) := h ▸ pg_tup hc hp hn hst
end
section
variable {K : PySem.W.Frag} {env : Env K} {os : Os} {ta tb te tx tl : TE} {α β γ : Type} [iα : Py K α] [iβ : Py K β] [iγ : Py K γ]
theorem atI_getD {xs : List α} {d : α} {i : Int} (h0 : 0 ≤ i) (h1 : i < xs.length) : atI xs i = some (xs.getD i.toNat d) := by
  have h2 : i.toNat < xs.length := by omega
  unfold atI
  rw [ixN_eq h0 h1]
  show xs[i.toNat]? = _
  rw [List.getD_eq_getElem?_getD, List.getElem?_eq_getElem h2]; rfl
theorem ev_ixLD {xs : List α} {i : Int} (d : α) (ha : Ev ta env os xs) (hb : Ev tb env os i) (h0 : 0 ≤ i) (h1 : i < xs.length) : Ev (tOp (rIxL K) ta tb) env os (xs.getD i.toNat d) := ev_ixL ha hb (atI_getD h0 h1)
theorem ev_ixTD {xs : Tup α} {i : Int} (d : α) (ha : Ev ta env os xs) (hb : Ev tb env os i) (h0 : 0 ≤ i) (h1 : i < xs.l.length) : Ev (tOp (rIxT K) ta tb) env os (xs.l.getD i.toNat d) := ev_ixT ha hb (atI_getD h0 h1)
end
end Lw
/-! Steps that change owned objects: expressions whose value is known in part, promises of defs that change what they are handed. -/
namespace Lw
open PySem PySem.Spec PyProof.Rows L2
section
variable {K : PySem.W.Frag}
/-- owned objects stand -/
structure Ow (g h : Hp) (os : Os) : Prop where
  own : ∀ p ∈ os, g p.1 = none ∧ ∃ o : HO, h p.1 = some o ∧ p.2.P g o
  nd : (os.map (·.1)).Nodup
/-- a step that changes nothing but what stands at ls -/
structure LeW (ls : List Addr) (g h g' h' : Hp) : Prop where
  gg : Same g g'
  hh : ∀ a o, a ∉ ls → h a = some o → h' a = some o
  gh : Same g' h'
  th : ∀ a, h a ≠ none → h' a ≠ none
  new : ∀ a, g a = none → h a ≠ none → g' a = none
variable {env : Env K} {os osc os' osz : Os} {ta tb te tx tl : TE} {tt t u : TT} {α β γ : Type} [iα : Py K α] [iβ : Py K β] [iγ : Py K γ]
variable {b : Bs} {g h g' h' : Hp} {σ : L2.St} {D : Ends} {t1 t2 : TS} {i j : Nat}
theorem S0.ow (s : S0 b g h σ env os) : Ow g h os := ⟨s.own, s.nd⟩
theorem Ow.sub (o : Ow g h os) (hs : ∀ p ∈ os', p ∈ os) (nd : (os'.map (·.1)).Nodup) : Ow g h os' := ⟨fun p hp => o.own p (hs p hp), nd⟩
theorem os_inj (nd : (os.map (·.1)).Nodup) {p q : Addr × Own} (hp : p ∈ os) (hq : q ∈ os) (e : p.1 = q.1) : p = q := by
  obtain ⟨i, hi⟩ := List.mem_iff_getElem?.mp hp
  obtain ⟨j, hj⟩ := List.mem_iff_getElem?.mp hq
  have a1 : (os.map (·.1))[i]? = some p.1 := by rw [List.getElem?_map, hi]; rfl
  have a2 : (os.map (·.1))[j]? = some p.1 := by rw [List.getElem?_map, hj, e]; rfl
  have hl : i < (os.map (·.1)).length := (List.getElem?_eq_some_iff.mp a1).1
  have := (List.getElem?_inj hl nd).mp (a1.trans a2.symm)
  subst this
  rw [hi] at hj
  exact Option.some.inj hj
/-- behind a call that was handed the objects osc -/
theorem S0.after (s : S0 b g h σ env os) (hc : ∀ p ∈ osc, p ∈ os) (l : LeW (osc.map (·.1)) g h g' h') (o : Ow g' h' osz) (hf : ∀ p ∈ osz, p.1 ∈ osc.map (·.1) ∨ h p.1 = none)
    (hm : ∀ p ∈ os', p ∈ osz ∨ (p ∈ os ∧ p.1 ∉ osc.map (·.1))) (nd : (os'.map (·.1)).Nodup) : S0 b g' h' σ env os' where
  gh := l.gh
  len := s.len
  sl := fun i t e => Slot.ok_mono l.gg (s.sl i t e)
  own := fun p hp => by
    rcases hm p hp with q | ⟨q, n⟩
    · exact o.own p q
    · obtain ⟨n1, u, e, r⟩ := s.own p q
      exact ⟨l.new _ n1 (some_ne_none e), u, l.hh _ _ n e, p.2.mono l.gg r⟩
  nd := nd
  gg := s.gg.trans l.gg
  fr := fun a u n e => by
    refine l.hh _ _ (fun z => ?_) (s.fr a u n e)
    obtain ⟨p, hp, rfl⟩ := List.mem_map.mp z
    rcases s.ol p (hc p hp) with w | w
    · rw [w] at e; cases e
    · exact n w
  th := fun a n => l.th a (s.th a n)
  new := fun a n m => l.new a (s.new a n m) (s.th a m)
  ol := fun p hp => by
    have key : ∀ q ∈ os, b.h q.1 = none ∨ q.1 ∈ b.ls := s.ol
    rcases hm p hp with q | ⟨q, _⟩
    · rcases hf p q with z | z
      · obtain ⟨r, hr, e⟩ := List.mem_map.mp z
        rw [← e]; exact key r (hc r hr)
      · left
        cases w : b.h p.1 with
        | none => rfl
        | some u => exact absurd z (s.th _ (some_ne_none w))
    · exact key p q
/-- the same objects, changed or not, told as before -/
theorem S0.afterSame (s : S0 b g h σ env os) (hc : ∀ p ∈ osc, p ∈ os) (l : LeW (osc.map (·.1)) g h g' h') (o : Ow g' h' osc) : S0 b g' h' σ env os :=
  s.after hc l o (fun p hp => .inl (List.mem_map_of_mem hp)) (fun p hp => by
    by_cases q : p.1 ∈ osc.map (·.1)
    · obtain ⟨r, hr, e⟩ := List.mem_map.mp q
      rw [← os_inj s.nd (hc r hr) hp e]; exact .inl hr
    · exact .inr ⟨hp, q⟩) s.nd
theorem Le.w (l : Le g h g' h') (ls : List Addr) : LeW ls g h g' h' := ⟨l.gg, fun a o _ e => l.hh a o e, l.gh, fun _ n => sameNe l.hh n, l.new⟩

/-- te gives a value of some x with P x; owned objects may change, and are told as before -/
structure EvW (te : TE) (env : Env K) (os : Os) {α : Type} [i : Py K α] (P : α → Prop) : Prop where
  run : ∀ {b : Bs} {g h : Hp} {σ : L2.St} {os2 : Os} {Q : VK}, S0 b g h σ env (os ++ os2) → (∀ v x g' h', P x → S0 b g' h' σ env (os ++ os2) → Same g g' → i.R g' v x → Q v h') → te σ h Q
structure EvTW (tt : TT) (env : Env K) (os : Os) (P : Bool → Prop) : Prop where
  run : ∀ {b : Bs} {g h : Hp} {σ : L2.St} {os2 : Os} {Q : Bool → Hp → Prop}, S0 b g h σ env (os ++ os2) → (∀ c g' h', P c → S0 b g' h' σ env (os ++ os2) → Same g g' → Q c h') → tt σ h Q
structure EvAW (ta : TA) (env : Env K) (os : Os) (P : List (Slot K) → Prop) : Prop where
  run : ∀ {b : Bs} {g h : Hp} {σ : L2.St} {os2 : Os} {Q : List V → Hp → Prop}, S0 b g h σ env (os ++ os2) → (∀ vs xs g' h', P xs → S0 b g' h' σ env (os ++ os2) → Same g g' → Args g' vs xs → Q vs h') → ta σ h Q
structure EvNW (te : TE) (env : Env K) (os : Os) {α : Type} [i : Py K α] (P : List α → Prop) : Prop where
  run : ∀ {b : Bs} {g h : Hp} {σ : L2.St} {os2 : Os} {Q : VK}, S0 b g h σ env (os ++ os2) → (∀ l vs xs g' h', P xs → S0 b g' h' σ env (os ++ os2) → Same g g' → h' l = none → Paired (i.R g') vs xs → Q (.ref l) (upd h' l (.lst vs))) → te σ h Q
theorem EvW.go {P : α → Prop} {Q : VK} (e : EvW te env os P) (s : S0 b g h σ env os) (k : ∀ v x g' h', P x → S0 b g' h' σ env os → Same g g' → iα.R g' v x → Q v h') : te σ h Q :=
  e.run (os2 := []) (by rw [List.append_nil]; exact s) fun v x g' h' p s' e r => k v x g' h' p (by rw [List.append_nil] at s'; exact s') e r
theorem EvTW.go {P : Bool → Prop} {Q : Bool → Hp → Prop} (e : EvTW tt env os P) (s : S0 b g h σ env os) (k : ∀ c g' h', P c → S0 b g' h' σ env os → Same g g' → Q c h') : tt σ h Q :=
  e.run (os2 := []) (by rw [List.append_nil]; exact s) fun c g' h' p s' e => k c g' h' p (by rw [List.append_nil] at s'; exact s') e
theorem EvNW.go {P : List α → Prop} {Q : VK} (e : EvNW te env os P) (s : S0 b g h σ env os) (k : ∀ l vs xs g' h', P xs → S0 b g' h' σ env os → Same g g' → h' l = none → Paired (iα.R g') vs xs → Q (.ref l) (upd h' l (.lst vs))) : te σ h Q :=
  e.run (os2 := []) (by rw [List.append_nil]; exact s) fun l vs x g' h' p s' e n r => k l vs x g' h' p (by rw [List.append_nil] at s'; exact s') e n r
theorem Ev.w {x : α} (e : Ev te env os x) : EvW te env os (fun y => y = x) := .mk fun {b g h σ os2 Q} s q =>
  e s.drop fun v g' h' l r => q v x g' h' rfl (s.le l) l.gg r
theorem EvT.w {c : Bool} (e : EvT tt env os c) : EvTW tt env os (fun d => d = c) := .mk fun {b g h σ os2 Q} s q =>
  e s.drop fun g' h' l => q c g' h' rfl (s.le l) l.gg
theorem EvN.w {xs : List α} (e : EvN te env os xs) : EvNW te env os (fun y => y = xs) := .mk fun {b g h σ os2 Q} s q =>
  e s.drop fun l vs g' h' le n r => q l vs xs g' h' rfl (s.le le) le.gg n r
theorem EvW.imp {P P' : α → Prop} (e : EvW te env os P) (hp : ∀ x, P x → P' x) : EvW te env os P' := .mk fun {b g h σ os2 Q} s q =>
  e.run s fun v x g' h' p => q v x g' h' (hp x p)
theorem EvTW.imp {P P' : Bool → Prop} (e : EvTW tt env os P) (hp : ∀ x, P x → P' x) : EvTW tt env os P' := .mk fun {b g h σ os2 Q} s q =>
  e.run s fun c g' h' p => q c g' h' (hp c p)
theorem EvNW.imp {P P' : List α → Prop} (e : EvNW te env os P) (hp : ∀ x, P x → P' x) : EvNW te env os P' := .mk fun {b g h σ os2 Q} s q =>
  e.run s fun l vs x g' h' p => q l vs x g' h' (hp x p)
theorem EvNW.w {P : List α → Prop} (h : EvNW te env os P) : EvW te env os P := .mk fun {b g h' σ os2 Q} s q => h.run s fun l vs x g1 h1 p s1 e1 hl r =>
  have le := Le.laid s1.gh hl (o := .lst vs)
  q _ x (upd g1 l (.lst vs)) _ p (s1.le le) (e1.trans le.gg) ⟨l, vs, rfl, .inl (.inl upd_same), pr_mono le.gg r⟩
/-- the values alone -/
theorem S0.slots {vs : List V} {xs : List (Slot K)} (s : S0 b g h σ env os) (r : Args g vs xs) : S0 b g h (vs.map some) xs os :=
  { s with
    len := by rw [List.length_map, args_len r]
    sl := fun i t e => by
      have q := args_get r e
      rw [List.getElem?_map]
      cases hv : vs[i]? with
      | none => rw [hv] at q; exact q
      | some v => rw [hv] at q; exact q }
theorem arg1 {v : V} {x : α} (r : iα.R g v x) : Args g [v] [sv (K := K) x] := .cons ⟨v, rfl, r⟩ .nil
theorem arg2 {v w : V} {x : α} {y : β} (r : iα.R g v x) (r' : iβ.R g w y) : Args g [v, w] [sv (K := K) x, sv y] := .cons ⟨v, rfl, r⟩ (.cons ⟨w, rfl, r'⟩ .nil)
/-- an operation that changes nothing, of values known in part -/
theorem ew_op {r : R2} {P : α → Prop} {P' : β → Prop} {f : α → β → γ} (ha : EvW ta env os P) (hb : EvW tb env os P') (hr : ∀ x y, P x → P' y → Ev (tOp r (tVar 0) (tVar 1)) [sv (K := K) x, sv y] [] (f x y)) :
    EvW (tOp r ta tb) env os (fun z => ∃ x y, P x ∧ P' y ∧ z = f x y) := .mk fun {b g h σ os2 Q} s q =>
  ha.run s fun v x g1 h1 p1 s1 e1 r1 => hb.run s1 fun w y g2 h2 p2 s2 e2 r2 => by
    obtain ⟨v', hv, w', hw, z⟩ := hr x y p1 p2 ((s2.slots (arg2 (iα.mono e2 r1) r2)).drop (os := [])) fun u g3 h3 l3 r3 => q u (f x y) g3 h3 ⟨x, y, p1, p2, rfl⟩ (s2.le l3) (e1.trans (e2.trans l3.gg)) r3
    cases hv; cases hw
    exact z
theorem ew_un {r : V → Hp → VK → Prop} {P : α → Prop} {f : α → γ} (ha : EvW ta env os P) (hr : ∀ x, P x → Ev (tUn r (tVar 0)) [sv (K := K) x] [] (f x)) : EvW (tUn r ta) env os (fun z => ∃ x, P x ∧ z = f x) := .mk fun {b g h σ os2 Q} s q =>
  ha.run s fun v x g1 h1 p1 s1 e1 r1 => by
    obtain ⟨v', hv, z⟩ := hr x p1 ((s1.slots (arg1 r1)).drop (os := [])) fun u g3 h3 l3 r3 => q u (f x) g3 h3 ⟨x, p1, rfl⟩ (s1.le l3) (e1.trans l3.gg) r3
    cases hv
    exact z
theorem ew_cb1 {r : List V → Hp → VK → Prop} {P : α → Prop} {f : α → γ} (ha : EvW ta env os P) (hr : ∀ x, P x → Ev (tCB r (tCons (tVar 0) tNil)) [sv (K := K) x] [] (f x)) : EvW (tCB r (tCons ta tNil)) env os (fun z => ∃ x, P x ∧ z = f x) := .mk fun {b g h σ os2 Q} s q =>
  ha.run s fun v x g1 h1 p1 s1 e1 r1 => by
    obtain ⟨v', hv, z⟩ := hr x p1 ((s1.slots (arg1 r1)).drop (os := [])) fun u g3 h3 l3 r3 => q u (f x) g3 h3 ⟨x, p1, rfl⟩ (s1.le l3) (e1.trans l3.gg) r3
    cases hv
    exact z
theorem ew_cb2 {r : List V → Hp → VK → Prop} {P : α → Prop} {P' : β → Prop} {f : α → β → γ} (ha : EvW ta env os P) (hb : EvW tb env os P') (hr : ∀ x y, P x → P' y → Ev (tCB r (tCons (tVar 0) (tCons (tVar 1) tNil))) [sv (K := K) x, sv y] [] (f x y)) :
    EvW (tCB r (tCons ta (tCons tb tNil))) env os (fun z => ∃ x y, P x ∧ P' y ∧ z = f x y) := .mk fun {b g h σ os2 Q} s q =>
  ha.run s fun v x g1 h1 p1 s1 e1 r1 => hb.run s1 fun w y g2 h2 p2 s2 e2 r2 => by
    obtain ⟨v', hv, w', hw, z⟩ := hr x y p1 p2 ((s2.slots (arg2 (iα.mono e2 r1) r2)).drop (os := [])) fun u g3 h3 l3 r3 => q u (f x y) g3 h3 ⟨x, y, p1, p2, rfl⟩ (s2.le l3) (e1.trans (e2.trans l3.gg)) r3
    cases hv; cases hw
    exact z
theorem ew_pair {P : α → Prop} {P' : β → Prop} (ha : EvW ta env os P) (hb : EvW tb env os P') : EvW (tTup (tCons ta (tCons tb tNil))) env os (fun z : α × β => P z.1 ∧ P' z.2) := .mk fun {b g h σ os2 Q} s q =>
  ha.run s fun v x g1 h1 p1 s1 e1 r1 => hb.run s1 fun w y g2 h2 p2 s2 e2 r2 => by
    refine ⟨(by decide : 2 ≤ sizeLine), fun p hp => ?_⟩
    have le := Le.laid s2.gh hp (o := .tup [v, w])
    exact q _ (x, y) _ _ ⟨p1, p2⟩ (s2.le le) (e1.trans (e2.trans le.gg)) ⟨p, v, w, rfl, upd_same, iα.mono (e2.trans le.gg) r1, iβ.mono le.gg r2⟩
/-! ### tests -/
theorem ewt_test {P : Bool → Prop} (ha : EvW ta env os P) : EvTW (tTest ta) env os P := .mk fun {b g h σ os2 Q} s q =>
  ha.run s fun v x g1 h1 p1 s1 e1 r1 => ⟨x, r1, q _ _ _ p1 s1 e1⟩
theorem ewt_B {P : Bool → Prop} (ha : EvW ta env os P) : EvTW (tB ta) env os P := .mk fun {b g h σ os2 Q} s q =>
  ha.run s fun v x g1 h1 p1 s1 e1 r1 => ⟨x, r1, q _ _ _ p1 s1 e1⟩
theorem ewt_any {P : Bool → Prop} (h : EvTW tt env os P) : EvTW tt env os (fun _ => True) := h.imp fun _ _ => trivial
theorem ewt_and (h1 : EvTW t env os fun _ => True) (h2 : EvTW u env os fun _ => True) : EvTW (tAnd t u) env os (fun _ => True) := .mk fun {b g h σ os2 Q} s q => h1.run s fun c g1 h' _ s1 e1 => by
  cases c with
  | true => exact h2.run s1 fun d g2 h2 _ s2 e2 => q d _ _ trivial s2 (e1.trans e2)
  | false => exact q _ _ _ trivial s1 e1
theorem ewt_or (h1 : EvTW t env os fun _ => True) (h2 : EvTW u env os fun _ => True) : EvTW (tOr t u) env os (fun _ => True) := .mk fun {b g h σ os2 Q} s q => h1.run s fun c g1 h' _ s1 e1 => by
  cases c with
  | true => exact q _ _ _ trivial s1 e1
  | false => exact h2.run s1 fun d g2 h2 _ s2 e2 => q d _ _ trivial s2 (e1.trans e2)
theorem ewt_not (h1 : EvTW t env os fun _ => True) : EvTW (tNot t) env os (fun _ => True) := .mk fun {b g h σ os2 Q} s q => h1.run s fun c g1 h' _ s1 e1 => q _ _ _ trivial s1 e1
theorem ew_if {P : α → Prop} (hc : EvTW tt env os fun _ => True) (ha : EvW ta env os P) (hb : EvW tb env os P) : EvW (tIf tt ta tb) env os P := .mk fun {b g h σ os2 Q} s q => hc.run s fun c g1 h1 _ s1 e1 => by
  cases c with
  | true => exact ha.run s1 fun v x g2 h2 p s2 e2 r => q v x g2 h2 p s2 (e1.trans e2) r
  | false => exact hb.run s1 fun v x g2 h2 p s2 e2 r => q v x g2 h2 p s2 (e1.trans e2) r
/-! ### arguments, calls -/
theorem eaw_nil : EvAW tNil env os (fun xs => xs = ([] : List (Slot K))) := .mk fun {b g h σ os2 Q} s q => q [] [] g h rfl s (Same.refl _) .nil
theorem eaw_cons {P : α → Prop} {PX : List (Slot K) → Prop} {ts : TA} (ha : EvW ta env os P) (hr : EvAW ts env os PX) : EvAW (tCons ta ts) env os (fun ys => ∃ x xs, P x ∧ PX xs ∧ ys = sv x :: xs) := .mk fun {b g h σ os2 Q} s q =>
  ha.run s fun v x g1 h1 p1 s1 e1 r1 => hr.run s1 fun vs xs g2 h2 p2 s2 e2 r2 => q _ (sv x :: xs) _ _ ⟨x, xs, p1, p2, rfl⟩ s2 (e1.trans e2) (.cons ⟨v, rfl, iα.mono e2 r1⟩ r2)
theorem EvA.w {ts : TA} {xs : List (Slot K)} (e : EvA ts env os xs) : EvAW ts env os (fun ys => ys = xs) := .mk fun {b g h σ os2 Q} s q =>
  e s.drop fun vs g' h' l r => q vs xs g' h' rfl (s.le l) l.gg r
/-- a call of a def that changes nothing, with arguments known in part -/
theorem ew_call {A : List (Slot K) → (γ → Prop) → Prop} {PX : List (Slot K) → Prop} {P : γ → Prop} {E : XK} {ts : TA} (h : EvAW ts env os PX) (hA : ∀ xs, PX xs → A xs P) : EvW (tCall (SpR K A) [] E ts) env os P := .mk fun {b g h' σ os2 Q} s q =>
  h.run s fun vs xs g1 h1 p1 s1 e1 r1 => ⟨g1, xs, P, hA xs p1, s1.gh, by rw [List.append_nil]; exact r1, fun v z g2 h2 hz l2 r2 => q v z g2 h2 hz (s1.le l2) (e1.trans l2.gg) r2⟩
/-- a def that changes what it is handed: A says which arguments and objects it takes, and what is wanted of the answer and the objects behind it -/
def SpW (K : PySem.W.Frag) {γ : Type} [iγ : Py K γ] (A : List (Slot K) → Os → (γ → Os → Prop) → Prop) : Sp := fun vs H Q _ =>
  ∃ (g : Hp) (xs : List (Slot K)) (os : Os) (P : γ → Os → Prop), A xs os P ∧ Same g H ∧ Ow g H os ∧ Args g vs xs ∧
    ∀ v z os' g' H', P z os' → (∀ p ∈ os', p.1 ∈ os.map (·.1) ∨ H p.1 = none) → LeW (os.map (·.1)) g H g' H' → Ow g' H' os' → iγ.R g' v z → Q v H'
/-- a call that leaves its objects as they are told -/
theorem ew_callW {A : List (Slot K) → Os → (γ → Os → Prop) → Prop} {PX : List (Slot K) → Prop} {P : γ → Prop} {E : XK} {ts : TA} (osc : Os) (h : EvAW ts env os PX) (hc : ∀ p ∈ osc, p ∈ os) (nd : osc.length ≤ 1 ∨ osc = os)
    (hA : ∀ xs, PX xs → A xs osc (fun z os' => P z ∧ os' = osc)) : EvW (tCall (SpW K A) [] E ts) env os P := .mk fun {b g h' σ os2 Q} s q =>
  h.run s fun vs xs g1 h1 p1 s1 e1 r1 => by
    have nd' : (osc.map (·.1)).Nodup := by
      rcases nd with n | n
      · match osc, n with
        | [], _ => simp
        | [p], _ => simp
      · subst n; exact (S0.drop s1).nd
    have hc' : ∀ p ∈ osc, p ∈ os ++ os2 := fun p hp => List.mem_append_left _ (hc p hp)
    refine ⟨g1, xs, osc, _, hA xs p1, s1.gh, s1.ow.sub hc' nd', by rw [List.append_nil]; exact r1, fun v z os' g2 h2 hz _ l2 o2 r2 => ?_⟩
    obtain ⟨hz, rfl⟩ := hz
    exact q v z g2 h2 hz (s1.afterSame hc' l2 o2) (e1.trans l2.gg) r2
/-! ### statements -/
theorem st_setW {P : α → Prop} (s : S0 b g h σ env os) (e : EvW te env os P) (k : ∀ x, P x → ∀ v g' h', S0 b g' h' (σ.set i (some v)) (env.set i (sv x)) os → D.nx (σ.set i (some v)) h') : tAsg te (gName i) D σ h :=
  e.go s fun v x g' h' p s' _ r => k x p v g' h' (s'.set ⟨v, rfl, r⟩)
theorem st_setNW {P : List α → Prop} (s : S0 b g h σ env os) (e : EvNW te env os P) (k : ∀ xs, P xs → ∀ l g' h', S0 b g' h' (σ.set i (some (.ref l))) (env.set i (sv (V.ref l))) (os ++ [(l, Own.lst K xs)]) → D.nx (σ.set i (some (.ref l))) h') : tAsg te (gName i) D σ h :=
  e.go s fun l vs xs g1 h1 p s1 _ hl r1 => k xs p l g1 _ ((s1.add (w := Own.lst K xs) hl ⟨vs, rfl, r1⟩).set ⟨_, rfl, rfl⟩)
theorem st_dropW {P : α → Prop} (s : S0 b g h σ env os) (e : EvW te env os P) (k : ∀ x, P x → ∀ g' h', S0 b g' h' σ env os → D.nx σ h') : tDrop te D σ h :=
  e.go s fun v x g' h' p s' _ _ => k x p g' h' s'
theorem st_retW {P : α → Prop} (s : S0 b g h σ env os) (e : EvW te env os P) (k : ∀ x, P x → ∀ v g' h', S0 b g' h' σ env os → iα.R g' v x → D.rt v h') : tRet te D σ h :=
  e.go s fun v x g' h' p s' _ r => k x p v g' h' s' r
theorem st_ifW {P : Bool → Prop} (s : S0 b g h σ env os) (e : EvTW t env os P) (k1 : P true → ∀ g' h', S0 b g' h' σ env os → t1 D σ h') (k2 : P false → ∀ g' h', S0 b g' h' σ env os → t2 D σ h') : tIfS t t1 t2 D σ h :=
  e.go s fun c g' h' p s' _ => by
    cases c with
    | true => exact k1 p g' h' s'
    | false => exact k2 p g' h' s'
/-- for name in range(e): e once, then as range(n) -/
theorem st_rangeW {tb : TS} {gt : TG} {P : Int → Prop} (s : S0 b g h σ env os) (e : EvW te env os P) (k : ∀ n, P n → ∀ g' h', S0 b g' h' σ env os → tFor (iRng1 (tCons (tC (.int n)) tNil)) gt tb D σ h') : tFor (iRng1 (tCons te tNil)) gt tb D σ h :=
  e.go s fun v n g' h' p s' _ r => by
    cases r
    exact k n p g' h' s'
theorem st_appendW {m : Nat} {l : Addr} {xs : List α} {P : α → Prop} (s : S0 b g h σ env os) (hx : env[i]? = some (.val V inferInstance (V.ref l))) (ho : os[m]? = some (l, Own.lst K xs)) (hl : xs.length < sizeLine) (e : EvW te env os P)
    (k : ∀ x, P x → ∀ g' h', S0 b g' h' σ env (os.set m (l, Own.lst K (xs ++ [x]))) → D.nx σ h') : tDrop (tBM K "list" rAppend (tVar i) (tCons te tNil)) D σ h := by
  unfold tDrop tBM
  refine ev_var hx s fun v g1 h1 l1 r1 => ?_
  cases r1
  have s1 := s.le l1
  obtain ⟨n1, o, e1, vs, rfl, p1⟩ := s1.own _ (List.mem_of_getElem? ho)
  refine ⟨.inl ⟨rfl, vs, SqL.of e1⟩, e.go s1 fun v x g2 h2 px s2 l2 r2 => ?_⟩
  obtain ⟨n2, o, e2, ws, rfl, p2⟩ := s2.own _ (List.mem_of_getElem? ho)
  exact ⟨l, ws, v, rfl, rfl, e2, by rw [p2.length]; exact hl, k x px g2 _ (s2.put (w' := Own.lst K (xs ++ [x])) ho ⟨_, rfl, paired_append p2 (.cons r2 .nil)⟩)⟩
/-- x[k] = e on an owned list -/
theorem st_setOW {m : Nat} {l : Addr} {xs : List α} {P : α → Prop} {PI : Int → Prop} (s : S0 b g h σ env os) (e : EvW te env os P) (hx : env[i]? = some (.val V inferInstance (V.ref l))) (ho : os[m]? = some (l, Own.lst K xs)) (hb : EvW tb env os PI) (hi : ∀ n, PI n → 0 ≤ n ∧ n < xs.length)
    (k : ∀ x n, P x → PI n → ∀ g' h', S0 b g' h' σ env (os.set m (l, Own.lst K (xs.set n.toNat x))) → D.nx σ h') : tAsg te (gSub (tVar i) tb rSetL) D σ h :=
  e.go s fun v x g1 h1' px s1 l1 r1 => ev_var hx s1 fun w g2 h2 l2 r2 => hb.go (s1.le l2) fun u n g3 h3 pn s3 l3 r3 => by
    cases r2
    obtain ⟨vs, e', p⟩ := own_seq s3 ho
    exact ⟨l, vs, n, n.toNat, rfl, r3, e', ixN_eq (hi n pn).1 (by rw [p.length]; exact (hi n pn).2), k x n px pn g3 _ (s3.put (w' := Own.lst K (xs.set n.toNat x)) ho ⟨_, rfl, paired_set (iα.mono (l2.gg.trans l3) r1) _ p⟩)⟩
end
end Lw
/-! Comprehensions whose items change owned objects; the promise of a def that changes its objects; owned dicts and mixed lists. -/
namespace Lw
open PySem PySem.Spec PyProof.Rows L2
section
variable {K : PySem.W.Frag}
variable {env : Env K} {os osc os' osz : Os} {ta tb te tx tl : TE} {tt t u : TT} {α β γ : Type} [iα : Py K α] [iβ : Py K β] [iγ : Py K γ]
variable {b : Bs} {g h g' h' : Hp} {σ : L2.St} {D : Ends} {t1 t2 : TS} {i j : Nat}
/-- what such a comprehension's block keeps -/
structure LwI (K : PySem.W.Frag) {β : Type} [iβ : Py K β] (env : Env K) (os : Os) (b : Bs) (ga ha : Hp) (σ : L2.St) (vs : List Nat) (D : Addr) (acc : List β) (H : Hp) : Prop where
  ex : ∃ g', S0 b g' H (L2.wipe σ vs) (wiped env vs) (os ++ [(D, Own.lst K acc)]) ∧ Same ga g'
  dn : ha D = none
  bn : b.h D = none
theorem LwI.start {ga ha : Hp} {Dd : Addr} (s : S0 b ga ha σ env os) (hd : ha Dd = none) (vs : List Nat) : LwI K (β := β) env os b ga ha σ vs Dd [] (upd ha Dd (.lst [])) where
  ex := ⟨ga, (s.wipe.add (w := Own.lst K ([] : List β)) hd ⟨[], rfl, .nil⟩), Same.refl _⟩
  dn := hd
  bn := by
    cases w : b.h Dd with
    | none => rfl
    | some u => exact absurd hd (s.th _ (some_ne_none w))
theorem LwI.done {ga ha H : Hp} {vs : List Nat} {Dd : Addr} {acc : List β} {Q : VK} (s0 : S0 b ga ha σ env os) (I : LwI K env os b ga ha σ vs Dd acc H)
    (q : ∀ l ws g' h', S0 b g' h' σ env os → Same ga g' → h' l = none → Paired (iβ.R g') ws acc → Q (.ref l) (upd h' l (.lst ws))) : Q (.ref Dd) H := by
  obtain ⟨g', s, e1⟩ := I.ex
  obtain ⟨nD, o, eD, ws, rfl, p⟩ := s.own (Dd, Own.lst K acc) (by simp)
  have hH : H = upd (fun a => if a = Dd then none else H a) Dd (.lst ws) := by
    funext a
    by_cases ha' : a = Dd
    · subst ha'; rw [upd_same]; exact eD
    · rw [upd_ne ha']; exact (if_neg ha').symm
  have sd := s.drop
  have nin : ∀ p ∈ os, p.1 ≠ Dd := fun p hp z => by
    have := s.nd
    rw [List.map_append] at this
    exact (List.nodup_append.mp this).2.2 p.1 (List.mem_map_of_mem hp) Dd (by simp) z
  have at_ : ∀ {a : Addr}, a ≠ Dd → (fun a => if a = Dd then none else H a) a = H a := fun hz => if_neg hz
  rw [hH]
  refine q Dd ws g' _ ⟨fun a o z => ?_, s0.len, fun n t e => Slot.ok_mono e1 (s0.sl n t e), fun p hp => ?_, sd.nd, sd.gg, fun a o n e => ?_, fun a n => ?_, sd.new, sd.ol⟩ e1 (if_pos rfl) p
  · have : a ≠ Dd := fun w => by rw [w, show g' Dd = none from nD] at z; cases z
    show (if a = Dd then none else H a) = some o
    rw [if_neg this]; exact sd.gh a o z
  · obtain ⟨n1, u, e, r⟩ := sd.own p hp
    exact ⟨n1, u, by show (if p.1 = Dd then none else H p.1) = some u; rw [if_neg (nin p hp)]; exact e, r⟩
  · have : a ≠ Dd := fun w => by rw [w, I.bn] at e; cases e
    show (if a = Dd then none else H a) = some o
    rw [if_neg this]; exact sd.fr a o n e
  · have : a ≠ Dd := fun w => n (by rw [w, I.bn])
    show (if a = Dd then none else H a) ≠ none
    rw [if_neg this]; exact sd.th a n
theorem LwI.turn {ga ha H : Hp} {vs : List Nat} {Dd : Addr} {acc : List β} {gt : TG} {f : Env K → α → Env K} {v : V} {x : α} {c : Bool} {P : β → Prop} {Nx : Hp → Prop} (I : LwI K env os b ga ha σ vs Dd acc H) (hg : TgtF (K := K) gt vs f)
    (rx : ∀ g', Same ga g' → iα.R g' v x) (ht : EvT tt (f (wiped env vs) x) os c) (he : c = true → EvW te (f (wiped env vs) x) os P) (hl : acc.length < sizeLine) (hw : L2.wipe (L2.wipe σ vs) vs = L2.wipe σ vs)
    (hN : ∀ y H', (c = true → P y) → LwI K env os b ga ha σ vs Dd (if c = true then acc ++ [y] else acc) H' → Nx H') (d : β) :
    gt v (L2.wipe σ vs) H fun σ2 H2 => L2.wipe σ2 vs = L2.wipe σ vs ∧ tt σ2 H2 fun b H3 => if b = true then te σ2 H3 fun y H4 => ∃ acc, H4 Dd = some (.lst acc) ∧ acc.length < sizeLine ∧ Nx (upd H4 Dd (.lst (acc ++ [y]))) else Nx H3 := by
  obtain ⟨g', s, e1⟩ := I.ex
  refine hg s (rx g' e1) fun σ2 w2 s2 => ⟨w2.trans hw, ht s2.drop fun g3 h3 l3 => ?_⟩
  cases c with
  | false => exact hN d h3 (fun z => nomatch z) ⟨⟨g3, s.le l3, e1.trans l3.gg⟩, I.dn, I.bn⟩
  | true =>
    refine (he rfl).run (s2.le l3) fun w y g4 h4 py s4 e4 r4 => ?_
    obtain ⟨nD, o, eD, ws, rfl, p⟩ := s4.own (Dd, Own.lst K acc) (by simp)
    refine ⟨ws, eD, by rw [p.length]; exact hl, hN y _ (fun _ => py) ⟨⟨g4, ?_, (e1.trans l3.gg).trans e4⟩, I.dn, I.bn⟩⟩
    have s5 : S0 b g4 h4 (L2.wipe σ vs) (wiped env vs) (os ++ [(Dd, Own.lst K acc)]) :=
      { s4 with len := s.len, sl := fun n t e => Slot.ok_mono (l3.gg.trans e4) (s.sl n t e) }
    have := s5.put (w' := Own.lst K (acc ++ [y])) (o := .lst (ws ++ [w])) last_at ⟨_, rfl, paired_append p (.cons r4 .nil)⟩
    rw [last_set] at this
    exact this
theorem filter_take1 {p : α → Bool} {xs : List α} {n : Nat} {x : α} (h : xs[n]? = some x) : (xs.take (n + 1)).filter p = (xs.take n).filter p ++ if p x = true then [x] else [] := by
  rw [List.take_add_one, h, List.filter_append]
  cases hp : p x <;> simp [hp]
theorem paired_snoc {P : α → β → Prop} {p : α → Bool} {xs : List α} {n : Nat} {x : α} {acc : List β} {y : β} (h : xs[n]? = some x) (pr : Paired (fun y x => P x y) acc ((xs.take n).filter p)) (hy : p x = true → P x y) :
    Paired (fun y x => P x y) (if p x = true then acc ++ [y] else acc) ((xs.take (n + 1)).filter p) := by
  rw [filter_take1 h]
  by_cases e : p x = true
  · rw [if_pos e, if_pos e]; exact paired_append pr (.cons (hy e) .nil)
  · rw [if_neg e, if_neg e, List.append_nil]; exact pr
theorem small_filter {p : α → Bool} {xs : List α} {n : Nat} {x : α} {acc : List β} {F : β → α → Prop} (h : xs[n]? = some x) (pr : Paired F acc ((xs.take n).filter p)) (hl : xs.length ≤ 1000000) : acc.length < sizeLine := by
  rw [pr.length]
  refine Nat.lt_of_le_of_lt (Nat.le_trans (List.length_filter_le _ _) (List.length_take_le _ _)) ?_
  exact Nat.lt_of_le_of_lt (by
    have := (List.getElem?_eq_some_iff.mp h).1
    omega) (by decide : 1000000 < sizeLine)
/-- [e for target in a list of xs if ..], e's value known in part -/
theorem ew_lcL {xs : List α} {vs : List Nat} {gt : TG} {f : Env K → α → Env K} {p : α → Bool} {P : α → β → Prop} (d : β) (hg : TgtF (K := K) gt vs f) (hx : Ev tl env os xs) (ht : ∀ x ∈ xs, EvT tt (f (wiped env vs) x) os (p x))
    (he : ∀ x ∈ xs, p x = true → EvW te (f (wiped env vs) x) os (P x)) (hl : xs.length ≤ 1000000) : EvNW (tLc (iList K tl) gt tt te vs) env os (fun ys => Paired (fun y x => P x y) ys (xs.filter p)) := .mk fun {b g h σ os2 Q} s q => by
  refine hx s.drop fun v g1 h1 l1 r1 => ?_
  obtain ⟨a, us, rfl, hq, hp⟩ := r1
  have s1 := s.le l1
  refine ⟨a, rfl, ⟨us, l1.gh.seq hq⟩, fun Dd hD => lc_list (K := K) (a := a) (xs := us) (fun n H => ∃ acc : List β, Paired (fun y x => P x y) acc ((xs.take n).filter p) ∧ LwI K env (os ++ os2) b g1 h1 σ vs Dd acc H) ⟨[], .nil, LwI.start s1 hD vs⟩ (fun n H _ ⟨acc, _, I⟩ => ?_) (fun n x H hn ⟨acc, pr, I⟩ => ?_) (fun H ⟨acc, pr, I⟩ => ?_)⟩
  · obtain ⟨g', s', e1⟩ := I.ex
    exact (e1.trans s'.gh).seq hq
  · obtain ⟨y, hy, ry⟩ := paired_getL hp hn
    have hm := List.mem_of_getElem? hy
    refine I.turn (P := P y) hg (fun g' e => iα.mono e ry) ?_ ?_ (small_filter hy pr hl) wipe_wipe (fun z H' pz I' => ⟨_, paired_snoc hy pr pz, I'⟩) d
    · exact fun {b g h σ Q} s q => ht y hm s.drop fun g' h' l => q g' h' l
    · exact fun hc => .mk fun {b g h σ os3 Q} s q => (he y hm hc).run (os2 := os2 ++ os3) (by rw [← List.append_assoc]; exact s) fun v x g' h' px s' e r => q v x g' h' px (by rw [List.append_assoc]; exact s') e r
  · rw [hp.length, List.take_length] at pr
    exact I.done s1 fun l ws g' h' s' e hn' r => q l ws acc g' h' pr s' (l1.gg.trans e) hn' r
/-- .. of range(n) -/
theorem ew_lcR {PN : Int → Prop} {P : Int → β → Prop} (d : β) (hx : EvW tl env os PN) (hn : ∀ n, PN n → n ≤ 1000000 ∧ -(2 ^ 62) ≤ n)
    (he : ∀ n, PN n → ∀ x, 0 ≤ x → x < n → EvW te ((wiped env [i]).set i (sv x)) os (P x)) : EvNW (tLc (iRng1 (tCons tl tNil)) (gName i) tYes te [i]) env os (fun ys => ∃ n, PN n ∧ Paired (fun y x => P x y) ys (upto n.toNat)) := .mk fun {b g h σ os2 Q} s q => by
  refine hx.run s fun v n g1 h1 pn s1 e1 r1 => ?_
  cases r1
  have hl := hn n pn
  refine ⟨n, rfl, hl.2, by omega, fun Dd hD => lc_range (lo := 0) (n := n.toNat) (fun k H => ∃ acc : List β, Paired (fun y x => P x y) acc (((upto n.toNat).take k).filter fun _ => true) ∧ LwI K env (os ++ os2) b g1 h1 σ [i] Dd acc H) ⟨[], .nil, LwI.start s1 hD [i]⟩ (fun k H hk ⟨acc, pr, I⟩ => ?_) (fun H ⟨acc, pr, I⟩ => ?_)⟩
  · have hy := upto_get hk
    have hm := mem_upto.mp (List.mem_of_getElem? hy)
    refine I.turn (P := P k) (x := (k : Int)) (tgt_name (α := Int)) (fun g' e => ?_) et_yes ?_ (small_filter hy pr (by rw [upto_len]; omega)) wipe_wipe (fun z H' pz I' => ⟨_, paired_snoc (p := fun _ => true) hy pr pz, I'⟩) d
    · show V.int (0 + (k : Int)) = V.int (k : Int)
      rw [Int.zero_add]
    · exact fun hc => .mk fun {b g h σ os3 Q} s q => (he n pn k hm.1 (by omega)).run (os2 := os2 ++ os3) (by rw [← List.append_assoc]; exact s) fun v x g' h' px s' e r => q v x g' h' px (by rw [List.append_assoc]; exact s') e r
  · rw [List.take_of_length_le (by rw [upto_len]; exact Nat.le_refl _), List.filter_eq_self.mpr (fun _ _ => rfl)] at pr
    exact I.done s1 fun l ws g' h' s' e hn' r => q l ws acc g' h' ⟨n, pn, pr⟩ s' (e1.trans e) hn' r
theorem paired_all {F : α → β → Prop} {xs : List α} {ys : List β} (h : Paired F xs ys) : ∀ x ∈ xs, ∃ y ∈ ys, F x y := by
  induction h with
  | nil => intro x hx; cases hx
  | cons r _ ih =>
    intro x hx
    rcases List.mem_cons.mp hx with rfl | hx
    · exact ⟨_, List.mem_cons_self, r⟩
    · obtain ⟨y, hy, q⟩ := ih x hx
      exact ⟨y, List.mem_cons_of_mem _ hy, q⟩
/-! ### promises -/
theorem S0.startW {N : List Str} {vs : List V} {xs : List (Slot K)} {H : Hp} (gh : Same g H) (r : Args g vs xs) (o : Ow g H os) : S0 ⟨os.map (·.1), g, H⟩ g H (L2.start N vs) (xs ++ List.replicate (N.length - xs.length) .unk) os where
  gh := gh
  len := (S0.start (N := N) gh r).len
  sl := (S0.start (N := N) gh r).sl
  own := o.own
  nd := o.nd
  gg := Same.refl _
  fr := fun a o _ q => q
  th := fun a n => n
  new := fun a n _ => n
  ol := fun p hp => .inr (List.mem_map_of_mem hp)
end
section
variable {fa : List He.Fa} {fn : List He.DefD} {ex : PySem.W.Frag → Bool} {P : Program} {w : World} {K : PySem.W.Frag} {mg : Str → Option Value} {base : Heap} {γ : Type} [iγ : Py K γ]
/-- a def that changes its objects keeps its promise -/
theorem okWD {x qual : Str} {st : Stmt} {f : Addr} {fd : FuncData} {N ps : List Str} {k : Nat} {A : List (Slot K) → Os → (γ → Os → Prop) → Prop} {dvs : List V} {kws : List (Str × V)} (F : FunD K x qual (defArgs st) (defBody st) (defScope st) dvs kws f fd) (S : FnScope N ps (defScope st)) (hlen : ∀ xs os P', A xs os P' → xs.length = ps.length)
    (hb : ∀ (cdv : Value) (Ar : Around) (outer : List PySem.Env) (s : Shared) (H : Hp) (E : XK), Room k (Ar.deeper (envOfC qual (defScope st) s.heap.objs.size f cdv)) → ∀ (xs : List (Slot K)) (os : Os) (P' : γ → Os → Prop), A xs os P' →
      ∃ t, PSs (cxOf CX0 P w K mg base N qual (defScope st) f cdv Ar outer s H E).nox (defBody st) t ∧
        ∀ (g : Hp) (σ : L2.St) (Q : VK), S0 ⟨os.map (·.1), g, H⟩ g H σ (xs ++ List.replicate (N.length - xs.length) .unk) os →
          (∀ v z g' h' σ' env' os' os2, P' z os' → (∀ p ∈ os', p ∈ os2) → S0 ⟨os.map (·.1), g, H⟩ g' h' σ' (env' : Env K) os2 → (os'.map (·.1)).Nodup → iγ.R g' v z → Q v h') → t { nx := fun _ H' => Q .non H', rt := Q } σ H) : FnOk P w K mg base CX0 (k + 1) f fd ps (SpW K A) := by
  refine F.ok S (fun vs H Q E h => ?_) (fun cdv Ar outer s H vs Q E hr h => ?_)
  · obtain ⟨g, xs, os, P', hA, _, _, r, _⟩ := h
    rw [args_len r]
    exact hlen xs os P' hA
  · obtain ⟨g, xs, os, P', hA, gh, o, r, q⟩ := h
    obtain ⟨t, ht, hq⟩ := hb cdv Ar outer s H E hr xs os P' hA
    refine ⟨t, ht.nox, hq g _ Q (S0.startW gh r o) fun v z g' h' σ' env' os' os2 hz hs s' nd rz => q v z os' g' h' hz (fun p hp => ?_) ⟨s'.gg, s'.fr, s'.gh, s'.th, s'.new⟩ (s'.ow.sub hs nd) rz⟩
    rcases s'.ol p (hs p hp) with w | w
    · exact .inr w
    · exact .inl w
end
end Lw
/-! Raising, catching over told states. -/
namespace Lw
open PySem PySem.Spec PyProof.Rows L2
/-- an exception's fields -/
inductive FsR {K : PySem.W.Frag} (g : Hp) : List (Str × V) → List (Str × Slot K) → Prop where
  | nil : FsR g [] []
  | cons {a : Str × V} {c : Str × Slot K} {vs : List (Str × V)} {fs : List (Str × Slot K)} : (a.1 = c.1 ∧ c.2.ok g (some a.2)) → FsR g vs fs → FsR g (a :: vs) (c :: fs)
section
variable {K : PySem.W.Frag} {env : Env K} {os : Os} {ta tb te tx : TE} {t u : TT} {α β γ : Type} [iα : Py K α] [iβ : Py K β] [iγ : Py K γ]
variable {b : Bs} {g h g' h' : Hp} {σ : L2.St} {D : Ends} {t1 t2 : TS} {i j : Nat}
theorem fsr_snoc {vs : List (Str × V)} {fs : List (Str × Slot K)} {a : Str × V} {c : Str × Slot K} (p : FsR g vs fs) (r : a.1 = c.1 ∧ c.2.ok g (some a.2)) : FsR g (vs ++ [a]) (fs ++ [c]) := by
  induction p with
  | nil => exact .cons r .nil
  | cons q _ ih => exact .cons q ih
theorem fsr_mono {vs : List (Str × V)} {fs : List (Str × Slot K)} (e : Same g g') (p : FsR g vs fs) : FsR g' vs fs := by
  induction p with
  | nil => exact .nil
  | cons q _ ih => exact .cons ⟨q.1, Slot.ok_mono e q.2⟩ ih
theorem fsr_zip {vs : List V} {xs : List (Slot K)} (r : Args g vs xs) : ∀ fs : List Str, FsR g (fs.zip vs) (fs.zip xs) := by
  induction r with
  | nil => intro fs; cases fs <;> exact .nil
  | cons q _ ih =>
    intro fs
    cases fs with
    | nil => exact .nil
    | cons f fs => exact .cons ⟨rfl, q⟩ (ih fs)
theorem fsr_rev {vs : List (Str × V)} {fs : List (Str × Slot K)} (p : FsR g vs fs) : FsR g vs.reverse fs.reverse := by
  induction p with
  | nil => exact .nil
  | cons q _ ih => rw [List.reverse_cons, List.reverse_cons]; exact fsr_snoc ih q
/-! ### raise X(e, ..) -/
theorem pmk_x {X : Cx} {x : Str} {fs : List Str} {e : Expr} {es : List Expr} {ta : TA} {p pos : Pos} (D : ExcD X.prog X.w X.K X.mg X.base x fs) (hr : Room 2 X.A) (hg : Gl X x) (ha : PA X (e :: es) ta) (hdb : (x == ("__debug__" : Str)) = false := by decide)
    (he : starEach (e :: es) X.env = (false, eval e X.env) :: starEach es X.env := by rfl) (hpl : (backTo pos (starEach es X.env)).any (·.1) = false := by rfl) : L2N.PMk X (.Call (.Name x p) (e :: es) [] pos) (tMkO (inC X.K x) (spIni (inC X.K x) fs) [] ta) := by
  obtain ⟨fd, iC, tI, hb, F1⟩ := D.ini
  exact pmk_oexN D.T iC tI F1 hr hb pass0 hg D.gC ha hdb he hpl
theorem st_mk {C : Addr} {fs : List Str} {ts : TA} {xs : List (Slot K)} {Q : XK} (s : S0 b g h σ env os) (e : EvA ts env os xs) (hl : xs.length = fs.length) (hz : fs.length ≤ 100)
    (k : ∀ vs d g' h', S0 b g' h' σ env os → h' d = none → FsR g' vs (fs.zip xs).reverse → Q (.ref C) (some d) (upd h' d (.xd vs))) : tMkO C (spIni C fs) [] ts σ h Q :=
  e s fun vs g1 h1 l1 r1 => by
    have hv : vs.length = fs.length := by rw [args_len r1]; exact hl
    refine ⟨by omega, fun a ha => ⟨a, vs, by rw [List.append_nil], hv, upd_same, fun dx hdx hne => ⟨rfl, dx, (fs.zip vs).reverse, upd_same, ?_, ?_, ?_⟩⟩⟩
    · rw [upd_ne hne, upd_same]
    · rw [upd_ne hne] at hdx; exact hdx
    · rw [upd_ne hne] at hdx
      have e : upd (del (upd (upd (upd h1 a (exo a C none)) dx (exd dx (fs.zip vs).reverse)) a (exo a C (some dx))) a) dx (.xd (fs.zip vs).reverse) = upd h1 dx (.xd (fs.zip vs).reverse) := by
        funext c
        by_cases h1' : c = dx
        · subst h1'; rw [upd_same, upd_same]
        · rw [upd_ne h1', upd_ne h1']
          by_cases h2 : c = a
          · subst h2; rw [del_same, ha]
          · rw [del_ne h2, upd_ne h2, upd_ne h1', upd_ne h2]
      rw [e]
      exact k _ dx g1 h1 (s.le l1) hdx (fsr_rev (fsr_zip r1 fs))
/-! ### promises of defs that may raise -/
/-- a def that changes nothing, answers or raises: A says which arguments it takes, what is wanted of the answer and of the exception (its class, its fields) -/
def SpE (K : PySem.W.Frag) {γ : Type} [iγ : Py K γ] (A : List (Slot K) → (γ → Prop) → (Addr → List (Str × Slot K) → Prop) → Prop) : Sp := fun vs H Q E =>
  ∃ (g : Hp) (xs : List (Slot K)) (P : γ → Prop) (PE : Addr → List (Str × Slot K) → Prop), A xs P PE ∧ Same g H ∧ Args g vs xs ∧ (∀ v z g' H', P z → Le g H g' H' → iγ.R g' v z → Q v H') ∧
    ∀ C fs d ws g' H', PE C fs → Le g H g' H' → H' d = none → FsR g' ws fs → E (.ref C) (some d) (upd H' d (.xd ws))
end
section
variable {fa : List He.Fa} {fn : List He.DefD} {ex : PySem.W.Frag → Bool} {P : Program} {w : World} {K : PySem.W.Frag} {mg : Str → Option Value} {base : Heap} {γ : Type} [iγ : Py K γ]
theorem okED {x qual : Str} {st : Stmt} {f : Addr} {fd : FuncData} {N ps : List Str} {k : Nat} {A : List (Slot K) → (γ → Prop) → (Addr → List (Str × Slot K) → Prop) → Prop} {dvs : List V} {kws : List (Str × V)} (F : FunD K x qual (defArgs st) (defBody st) (defScope st) dvs kws f fd) (S : FnScope N ps (defScope st)) (hlen : ∀ xs P' PE, A xs P' PE → xs.length = ps.length)
    (hb : ∀ (cdv : Value) (Ar : Around) (outer : List PySem.Env) (s : Shared) (H : Hp) (E : XK), Room k (Ar.deeper (envOfC qual (defScope st) s.heap.objs.size f cdv)) → ∀ (xs : List (Slot K)) (P' : γ → Prop) (PE : Addr → List (Str × Slot K) → Prop), A xs P' PE →
      ∃ t, PSs (cxOf (L2N.CX P w) P w K mg base N qual (defScope st) f cdv Ar outer s H E) (defBody st) t ∧
        ∀ (g : Hp) (σ : L2.St) (Q : VK), S0 ⟨[], g, H⟩ g H σ (xs ++ List.replicate (N.length - xs.length) .unk) [] →
          (∀ v z g' h' σ' env' os', P' z → S0 ⟨[], g, H⟩ g' h' σ' (env' : Env K) os' → iγ.R g' v z → Q v h') →
          (∀ C fs d ws g' h' σ' env' os', PE C fs → S0 ⟨[], g, H⟩ g' h' σ' (env' : Env K) os' → h' d = none → FsR g' ws fs → E (.ref C) (some d) (upd h' d (.xd ws))) → t { nx := fun _ H' => Q .non H', rt := Q } σ H) : FnOk P w K mg base (L2N.CX P w) (k + 1) f fd ps (SpE K A) := by
  refine F.ok S (fun vs H Q E h => ?_) (fun cdv Ar outer s H vs Q E hr h => ?_)
  · obtain ⟨g, xs, P', PE, hA, _, r, _⟩ := h
    rw [args_len r]
    exact hlen xs P' PE hA
  · obtain ⟨g, xs, P', PE, hA, gh, r, q, qe⟩ := h
    obtain ⟨t, ht, hq⟩ := hb cdv Ar outer s H E hr xs P' PE hA
    exact ⟨t, ht, hq g _ Q (S0.start gh r) (fun v z g' h' σ' env' os' hz s' rz => q v z g' h' hz (s'.fin rfl) rz) fun C fs d ws g' h' σ' env' os' he s' hd hf => qe C fs d ws g' h' he (s'.fin rfl) hd hf⟩
/-- the def called x, that may raise, keeps the promise sp -/
def CalE (P : Program) (w : World) (K : PySem.W.Frag) (mg : Str → Option Value) (base : Heap) (x : Str) (k : Nat) (ps : List Str) (sp : Sp) : Prop :=
  ∃ f fd, mg x = some (.ref f) ∧ PySem.W.keepIn K (.ref f) = true ∧ Binds K fd ps [] ∧ FnOk P w K mg base (L2N.CX P w) k f fd ps sp
theorem Fx.calE (E : Fx fa fn ex K mg) (i j : Nat) {x : Str} {st : Stmt} {ps : List Str} {k : Nat} {sp : Sp} (hi : fn[i]? = some ⟨(x, none), x, x, defArgs st, defBody st, defScope st, [], []⟩) (hj : fa[j]? = some (.glo x))
    (hbi : ∀ (kV doc pm : Value) (an : Option Addr) (cdv ct : Value) (us : List Value), us.length = ps.length → bindArgs (PySem.W.fnOf x x (defArgs st) (defBody st) (defScope st) .none kV doc pm an cdv ct) ⟨us, []⟩ = pure (ps.zip us))
    (hf : ∀ f fd, FunD K x x (defArgs st) (defBody st) (defScope st) [] [] f fd → FnOk P w K mg base (L2N.CX P w) k f fd ps sp) : CalE P w K mg base x k ps sp := by
  obtain ⟨fd, F⟩ := E.d.def_ i hi
  exact ⟨_, fd, E.gref j hj, F.kp, F.bindsN hbi, hf _ fd F⟩
end
section
variable {X : Cx} {x : Str} {k : Nat} {ps : List Str} {sp : Sp} {e : Expr} {es : List Expr} {p pos : Pos} {t : TA}
/-- a call of such a def, what it raises leaves the caller too -/
theorem pe_cE {E : XK} {W : WX} (C : CalE X.prog X.w X.K X.mg X.base x k ps sp) (hr : Room k X.A) (tk : L2N.Takes X W) (hW : ∀ cls d σ H, E cls d H → W cls d σ H) (hg : Gl X x) (ha : PA X (e :: es) t) (hdb : (x == ("__debug__" : Str)) = false := by decide)
    (he : starEach (e :: es) X.env = (false, eval e X.env) :: starEach es X.env := by rfl) (hpl : (backTo pos (starEach es X.env)).any (·.1) = false := by rfl) : PE X (.Call (.Name x p) (e :: es) [] pos) (tCall sp [] E t) := by
  obtain ⟨f, fd, gm, kp, bi, ok⟩ := C
  exact pe_call ok hr hg gm kp bi .nil (L2N.passes_call tk hW) ha hdb he hpl
/-- .. in a try -/
theorem pe_cT {W : WX} (C : CalE X.prog X.w X.K X.mg X.base x k ps sp) (hr : Room k X.A) (tk : L2N.Takes X W) (hg : Gl X x) (ha : PA X (e :: es) t) (hdb : (x == ("__debug__" : Str)) = false := by decide)
    (he : starEach (e :: es) X.env = (false, eval e X.env) :: starEach es X.env := by rfl) (hpl : (backTo pos (starEach es X.env)).any (·.1) = false := by rfl) : PE X (.Call (.Name x p) (e :: es) [] pos) (tCallS sp (fun σ => WE W σ) t) := by
  obtain ⟨f, fd, gm, kp, bi, ok⟩ := C
  exact pe_callS ok hr hg gm kp bi (fun σ => L2N.passAt tk σ) ha hdb he hpl
end
end Lw
/-! Owned dicts and mixed lists; calls that change what they are handed. -/
namespace Lw
open PySem PySem.Spec PyProof.Rows L2
section
variable {K : PySem.W.Frag}
variable {env : Env K} {os osc os' osz rest : Os} {ta tb te tx tl : TE} {tt t u : TT} {α β γ : Type} [iα : Py K α] [iβ : Py K β] [iγ : Py K γ]
variable {b : Bs} {g h g' h' : Hp} {σ : L2.St} {D : Ends} {t1 t2 : TS} {i j m : Nat} {l : Addr}
theorem os_other (nd : (os.map (·.1)).Nodup) {k m : Nat} {p q : Addr × Own} (hp : os[k]? = some p) (hq : os[m]? = some q) (ne : k ≠ m) : p.1 ≠ q.1 := fun z => by
  have a1 : (os.map (·.1))[k]? = some p.1 := by rw [List.getElem?_map, hp]; rfl
  have a2 : (os.map (·.1))[m]? = some p.1 := by rw [List.getElem?_map, hq, z]; rfl
  exact ne ((List.getElem?_inj (List.getElem?_eq_some_iff.mp a1).1 nd).mp (a1.trans a2.symm))
theorem set_keys {w : Own} {w' : Own} (e : os[m]? = some (l, w)) : (os.set m (l, w')).map (·.1) = os.map (·.1) := by
  rw [List.map_set]
  apply List.ext_getElem?
  intro j
  by_cases hj : m = j
  · subst hj
    rw [List.getElem?_set_self (by rw [List.length_map]; exact (List.getElem?_eq_some_iff.mp e).1), List.getElem?_map, e]
    rfl
  · rw [List.getElem?_set_ne hj]
/-- what is told of an owned object is told in another way -/
theorem S0.tell {w w' : Own} (s : S0 b g h σ env os) (e : os[m]? = some (l, w)) (q : ∀ o, w.P g o → w'.P g o) : S0 b g h σ env (os.set m (l, w')) := by
  have mem : ∀ p ∈ os.set m (l, w'), p = (l, w') ∨ p ∈ os := fun p hp => by
    rcases List.mem_or_eq_of_mem_set hp with z | z
    · exact .inr z
    · exact .inl z
  have hm := List.mem_of_getElem? e
  refine { s with own := fun p hp => ?_, nd := by rw [set_keys e]; exact s.nd, ol := fun p hp => ?_ }
  · rcases mem p hp with rfl | z
    · obtain ⟨n, o, e1, r⟩ := s.own _ hm
      exact ⟨n, o, e1, q o r⟩
    · exact s.own p z
  · rcases mem p hp with rfl | z
    · exact s.ol (l, w) hm
    · exact s.ol p z
/-- one of many shapes -/
def Own.ex {ι : Type} (ok : ι → Prop) (W : ι → Own) : Own := ⟨fun g o => ∃ p, ok p ∧ (W p).P g o, fun {g g' o} e ⟨p, h1, h2⟩ => ⟨p, h1, (W p).mono e h2⟩⟩
theorem S0.opened {ι : Type} {ok : ι → Prop} {W : ι → Own} (s : S0 b g h σ env os) (e : os[m]? = some (l, Own.ex ok W)) : ∃ p, ok p ∧ S0 b g h σ env (os.set m (l, W p)) := by
  obtain ⟨n, o, e1, p, h1, h2⟩ := s.own _ (List.mem_of_getElem? e)
  refine ⟨p, h1, ?_⟩
  have hl := (List.getElem?_eq_some_iff.mp e).1
  have mem : ∀ q ∈ os.set m (l, W p), q = (l, W p) ∨ q ∈ os := fun q hq => by
    rcases List.mem_or_eq_of_mem_set hq with z | z
    · exact .inr z
    · exact .inl z
  refine { s with own := fun q hq => ?_, nd := by rw [set_keys e]; exact s.nd, ol := fun q hq => ?_ }
  · rcases mem q hq with rfl | z
    · exact ⟨n, o, e1, h2⟩
    · exact s.own q z
  · rcases mem q hq with rfl | z
    · exact s.ol (l, Own.ex ok W) (List.mem_of_getElem? e)
    · exact s.ol q z
theorem S0.closed {ι : Type} {ok : ι → Prop} {W : ι → Own} {p : ι} (s : S0 b g h σ env os) (e : os[m]? = some (l, W p)) (hp : ok p) : S0 b g h σ env (os.set m (l, Own.ex ok W)) :=
  s.tell e fun o q => ⟨p, hp, q⟩
theorem S0.perm (s : S0 b g h σ env os) (hp : os.Perm os') : S0 b g h σ env os' :=
  { s with own := fun p q => s.own p (hp.mem_iff.mpr q), nd := (hp.map _).nodup s.nd, ol := fun p q => s.ol p (hp.mem_iff.mpr q) }
/-- an owned list that is not the caller's becomes a value -/
theorem S0.freezeN {xs : List α} (s : S0 b g h σ env os) (hx : env[i]? = some (.val V inferInstance (V.ref l))) (ho : os[m]? = some (l, Own.lst K xs)) (nl : l ∉ b.ls) : ∃ g', S0 b g' h σ (env.set i (sv xs)) (os.eraseIdx m) := by
  obtain ⟨n1, o, e1, vs, rfl, p1⟩ := s.own _ (List.mem_of_getElem? ho)
  have hm := List.mem_of_getElem? ho
  have nb : b.h l = none := (s.ol _ hm).resolve_right nl
  have lg : Same g (upd g l (.lst vs)) := fun c u q => by rw [upd_ne (ne_of_none q n1)]; exact q
  have nin : ∀ p ∈ os.eraseIdx m, p ∈ os ∧ p.1 ≠ l := fun p hp => by
    obtain ⟨j, hj, hjm⟩ := List.mem_eraseIdx_iff_getElem?.mp hp
    exact ⟨List.mem_of_getElem? hjm, os_other s.nd hjm ho hj⟩
  refine ⟨upd g l (.lst vs), fun c u q => ?_, by rw [List.length_set]; exact s.len, fun n t e => ?_, fun p hp => ?_, ?_, s.gg.trans lg, s.fr, s.th, fun a n m => ?_, fun p hp => s.ol p (nin p hp).1⟩
  · by_cases hc : c = l
    · subst hc; rw [upd_same] at q; cases q; exact e1
    · rw [upd_ne hc] at q; exact s.gh _ _ q
  · by_cases hn : i = n
    · subst hn
      have hl : i < env.length := (List.getElem?_eq_some_iff.mp hx).1
      rw [List.getElem?_set_self hl] at e
      cases e
      obtain ⟨v, q1, q2⟩ := s.sl i _ hx
      cases q2
      exact ⟨_, q1, l, vs, rfl, .inl (.inl upd_same), pr_mono lg p1⟩
    · rw [List.getElem?_set_ne hn] at e
      exact Slot.ok_mono lg (s.sl n t e)
  · obtain ⟨hp1, hp2⟩ := nin p hp
    obtain ⟨n2, o2, e2, q2⟩ := s.own p hp1
    exact ⟨by rw [upd_ne hp2]; exact n2, o2, e2, p.2.mono lg q2⟩
  · have : ((os.eraseIdx m).map (·.1)).Sublist (os.map (·.1)) := (List.eraseIdx_sublist os m).map _
    exact this.nodup s.nd
  · rw [upd_ne (fun z => by rw [z, nb] at m; exact m rfl)]
    exact s.new a n m
/-- .. where the caller's objects stand elsewhere in os -/
theorem S0.freezeW {xs : List α} (s : S0 b g h σ env os) (hx : env[i]? = some (.val V inferInstance (V.ref l))) (ho : os[m]? = some (l, Own.lst K xs)) (n : Nat) (hb : b.ls = (os.take n).map (·.1)) (hn : n ≤ m) : ∃ g', S0 b g' h σ (env.set i (sv xs)) (os.eraseIdx m) :=
  s.freezeN hx ho fun z => by
    rw [hb] at z
    obtain ⟨p, hp, e⟩ := List.mem_map.mp z
    obtain ⟨k, hk⟩ := List.mem_iff_getElem?.mp hp
    have hkn : k < n := by
      have := (List.getElem?_eq_some_iff.mp hk).1
      rw [List.length_take] at this
      omega
    rw [List.getElem?_take_of_lt hkn] at hk
    exact os_other s.nd hk ho (by omega) e

/-! ### mixed lists -/
def Own.lsl (xs : List (Slot K)) : Own := ⟨fun g o => ∃ vs, o = .lst vs ∧ Args g vs xs, fun {g g' o} e ⟨vs, h1, h2⟩ => ⟨vs, h1, args_mono e h2⟩⟩
theorem own_lsl {xs : List (Slot K)} (s : S0 b g h σ env os) (ho : os[m]? = some (l, Own.lsl xs)) : ∃ vs, h l = some (.lst vs) ∧ Args g vs xs := by
  obtain ⟨n1, o, e1, vs, rfl, p1⟩ := s.own _ (List.mem_of_getElem? ho)
  exact ⟨vs, e1, p1⟩
theorem args_at {vs : List V} {xs : List (Slot K)} {n : Nat} {x : α} (r : Args g vs xs) (e : xs[n]? = some (sv x)) : ∃ v, vs[n]? = some v ∧ iα.R g v x := by
  obtain ⟨v, h1, h2⟩ := args_get r e
  exact ⟨v, h1, h2⟩
theorem args_set {vs : List V} {xs : List (Slot K)} {v : V} {x : α} (r : iα.R g v x) : ∀ (n : Nat), Args g vs xs → Args g (vs.set n v) (xs.set n (sv x)) := by
  intro n q
  induction q generalizing n with
  | nil => exact .nil
  | cons h t ih =>
    cases n with
    | zero => exact .cons ⟨v, rfl, r⟩ t
    | succ n => exact .cons h (ih n)
theorem atI_nat {xs : List V} {n : Nat} {v : V} (h : xs[n]? = some v) : atI xs (n : Int) = some v := by
  have hl := (List.getElem?_eq_some_iff.mp h).1
  unfold atI
  rw [ixN_eq (by omega) (by omega)]
  exact h
/-- x[n], n a number that stands in the text -/
theorem ev_ixH {xs : List (Slot K)} {x : α} {n : Nat} (hx : env[i]? = some (.val V inferInstance (V.ref l))) (ho : os[m]? = some (l, Own.lsl xs)) (hn : xs[n]? = some (sv x)) : Ev (tOp (rIxL K) (tVar i) (tC (.int (n : Int)))) env os x := fun {b g h σ Q} s q =>
  ev_var hx s fun v g1 h1 l1 r1 => by
    cases r1
    obtain ⟨vs, e, p⟩ := own_lsl (s.le l1) ho
    obtain ⟨v, e', r⟩ := args_at p hn
    exact ⟨l, vs, n, v, rfl, rfl, SqL.of e, atI_nat e', q _ _ _ l1 r⟩
theorem ev_lenH {xs : List (Slot K)} (hx : env[i]? = some (.val V inferInstance (V.ref l))) (ho : os[m]? = some (l, Own.lsl xs)) : Ev (tCB (fun xs H Q => ∃ p ys, xs = [V.ref p] ∧ (SqL K H p ys ∨ SqT K H p ys) ∧ Q (.int ys.length) H) (tCons (tVar i) tNil)) env os (xs.length : Int) := fun {b g h σ Q} s q =>
  ev_var hx s fun v g1 h1 l1 r1 => by
    cases r1
    obtain ⟨vs, e, p⟩ := own_lsl (s.le l1) ho
    exact ⟨l, vs, rfl, .inl (SqL.of e), q _ _ _ l1 (by rw [args_len p]; rfl)⟩
theorem st_setH {xs : List (Slot K)} {x : α} {n : Nat} (s : S0 b g h σ env os) (e : Ev te env os x) (hx : env[i]? = some (.val V inferInstance (V.ref l))) (ho : os[m]? = some (l, Own.lsl xs)) (hn : n < xs.length)
    (k : ∀ g' h', S0 b g' h' σ env (os.set m (l, Own.lsl (xs.set n (sv x)))) → D.nx σ h') : tAsg te (gSub (tVar i) (tC (.int (n : Int))) rSetL) D σ h :=
  e s fun v g1 h1' l1 r1 => ev_var hx (s.le l1) fun w g2 h2 l2 r2 => by
    cases r2
    have s3 := (s.le l1).le l2
    obtain ⟨vs, e', p⟩ := own_lsl s3 ho
    exact ⟨l, vs, n, n, rfl, rfl, e', ixN_eq (by omega) (by rw [args_len p]; omega), k g2 _ (s3.put (w' := Own.lsl (xs.set n (sv x))) ho ⟨_, rfl, args_set (iα.mono l2.gg r1) _ p⟩)⟩
/-- x = [..], mixed, to be changed later -/
theorem st_newH {xs : List (Slot K)} {ts : TA} (s : S0 b g h σ env os) (e : EvA ts env os xs) (hl : xs.length ≤ 100000) (k : ∀ l g' h', S0 b g' h' (σ.set i (some (.ref l))) (env.set i (sv (V.ref l))) (os ++ [(l, Own.lsl xs)]) → D.nx (σ.set i (some (.ref l))) h') : tAsg (tLst ts) (gName i) D σ h :=
  e s fun vs g1 h1 l1 r1 => ⟨by rw [args_len r1]; exact Nat.le_trans hl (by decide), fun p hp => k p g1 _ (((s.le l1).add (w := Own.lsl xs) hp ⟨vs, rfl, r1⟩).set ⟨_, rfl, rfl⟩)⟩
theorem st_retH {xs : List (Slot K)} {ts : TA} (s : S0 b g h σ env os) (e : EvA ts env os xs) (hl : xs.length ≤ 100000) (k : ∀ l g' h', S0 b g' h' σ env (os ++ [(l, Own.lsl xs)]) → D.rt (.ref l) h') : tRet (tLst ts) D σ h :=
  e s fun vs g1 h1 l1 r1 => ⟨by rw [args_len r1]; exact Nat.le_trans hl (by decide), fun p hp => k p g1 _ ((s.le l1).add (w := Own.lsl xs) hp ⟨vs, rfl, r1⟩)⟩

/-! ### dicts with texts and ints as keys -/
inductive KR (g : Hp) : List (Key × V) → List (Key × Slot K) → Prop where
  | nil : KR g [] []
  | cons {a : Key × V} {c : Key × Slot K} {vs : List (Key × V)} {kvs : List (Key × Slot K)} : (a.1 = c.1 ∧ c.2.ok g (some a.2)) → KR g vs kvs → KR g (a :: vs) (c :: kvs)
theorem kr_snoc {vs : List (Key × V)} {kvs : List (Key × Slot K)} {a : Key × V} {c : Key × Slot K} (p : KR g vs kvs) (r : a.1 = c.1 ∧ c.2.ok g (some a.2)) : KR g (vs ++ [a]) (kvs ++ [c]) := by
  induction p with
  | nil => exact .cons r .nil
  | cons q _ ih => exact .cons q ih
theorem kr_mono {vs : List (Key × V)} {kvs : List (Key × Slot K)} (e : Same g g') (p : KR g vs kvs) : KR g' vs kvs := by
  induction p with
  | nil => exact .nil
  | cons q _ ih => exact .cons ⟨q.1, Slot.ok_mono e q.2⟩ ih
theorem kr_len {vs : List (Key × V)} {kvs : List (Key × Slot K)} (p : KR g vs kvs) : vs.length = kvs.length := by
  induction p with
  | nil => rfl
  | cons q _ ih => rw [List.length_cons, List.length_cons, ih]
def getS (kvs : List (Key × Slot K)) (k : Key) : Option (Slot K) := (kvs.find? fun kv => decide (kv.1 = k)).map (·.2)
def putS (kvs : List (Key × Slot K)) (k : Key) (v : Slot K) : List (Key × Slot K) := if (kvs.any fun kv => decide (kv.1 = k)) = true then kvs.map (fun kv => if kv.1 = k then (kv.1, v) else kv) else kvs ++ [(k, v)]
theorem kf_get {vs : List (Key × V)} {kvs : List (Key × Slot K)} {k : Key} {t : Slot K} (p : KR g vs kvs) (e : getS kvs k = some t) : ∃ v, valV vs k = some v ∧ t.ok g (some v) := by
  unfold getS at e
  unfold valV
  induction p with
  | nil => cases e
  | @cons a c as cs r _ ih =>
    by_cases hk : c.1 = k
    · rw [List.find?_cons_of_pos (by simpa using hk)] at e
      rw [List.find?_cons_of_pos (by simpa using r.1.trans hk)]
      cases e
      exact ⟨a.2, rfl, r.2⟩
    · rw [List.find?_cons_of_neg (by simpa using hk)] at e
      rw [List.find?_cons_of_neg (by rw [decide_eq_true_iff, r.1]; exact hk)]
      exact ih e
theorem kf_any {vs : List (Key × V)} {kvs : List (Key × Slot K)} (p : KR g vs kvs) (k : Key) : (vs.any fun kv => decide (kv.1 = k)) = kvs.any fun kv => decide (kv.1 = k) := by
  induction p with
  | nil => rfl
  | cons r _ ih => rw [List.any_cons, List.any_cons, ih, r.1]
theorem kf_put {vs : List (Key × V)} {kvs : List (Key × Slot K)} {k : Key} {v : V} {t : Slot K} (p : KR g vs kvs) (r : t.ok g (some v)) : KR g (putK vs k v) (putS kvs k t) := by
  unfold putK putS
  rw [kf_any p k]
  split
  · rename_i hany
    clear hany
    induction p with
    | nil => exact .nil
    | @cons a c as cs q _ ih =>
      refine .cons ?_ ih
      show (if a.1 = k then (a.1, v) else a).1 = (if c.1 = k then (c.1, t) else c).1 ∧ (if c.1 = k then (c.1, t) else c).2.ok g (some (if a.1 = k then (a.1, v) else a).2)
      rw [q.1]
      by_cases hk : c.1 = k
      · rw [if_pos hk, if_pos hk]; exact ⟨rfl, r⟩
      · rw [if_neg hk, if_neg hk]; exact q
  · exact kr_snoc p ⟨rfl, r⟩
def Own.dic (kvs : List (Key × Slot K)) : Own := ⟨fun g o => ∃ vs, o = .dK vs ∧ KR g vs kvs, fun {g g' o} e ⟨vs, h1, h2⟩ => ⟨vs, h1, kr_mono e h2⟩⟩
theorem own_dic {kvs : List (Key × Slot K)} (s : S0 b g h σ env os) (ho : os[m]? = some (l, Own.dic kvs)) : ∃ vs, h l = some (.dK vs) ∧ KR g vs kvs := by
  obtain ⟨n1, o, e1, vs, rfl, p1⟩ := s.own _ (List.mem_of_getElem? ho)
  exact ⟨vs, e1, p1⟩
/-- d['key'] -/
theorem ev_dgetO {kvs : List (Key × Slot K)} {x : α} {k : Str} (hx : env[i]? = some (.val V inferInstance (V.ref l))) (ho : os[m]? = some (l, Own.dic kvs)) (e : getS kvs (.inr k) = some (sv x)) : Ev (tDGet (tVar i) (tC (.str k))) env os x := fun {b g h σ Q} s q =>
  ev_var hx s fun v g1 h1 l1 r1 => by
    cases r1
    obtain ⟨vs, e1, p⟩ := own_dic (s.le l1) ho
    obtain ⟨v, e2, v', e3, r⟩ := kf_get p e
    cases e3
    refine ⟨l, v, rfl, ?_, q _ _ _ l1 r⟩
    rw [← e2]
    exact DGet.k (k := .inr k) e1
/-- d['key'] = e -/
theorem st_dputO {kvs : List (Key × Slot K)} {x : α} {k : Str} (s : S0 b g h σ env os) (e : Ev te env os x) (hx : env[i]? = some (.val V inferInstance (V.ref l))) (ho : os[m]? = some (l, Own.dic kvs)) (hl : kvs.length < 1000)
    (q : ∀ g' h', S0 b g' h' σ env (os.set m (l, Own.dic (putS kvs (.inr k) (sv x)))) → D.nx σ h') : sDPut (tVar i) (tC (.str k)) te D σ h :=
  e s fun v g1 h1 l1 r1 => ev_var hx (s.le l1) fun w g2 h2 l2 r2 => by
    cases r2
    have s3 := (s.le l1).le l2
    obtain ⟨vs, e', p⟩ := own_dic s3 ho
    exact ⟨l, _, rfl, DPut.k (k := .inr k) e' (by rw [kr_len p]; exact Nat.lt_trans hl (by decide)), q g2 _ (s3.put (w' := Own.dic (putS kvs (.inr k) (sv x))) ho ⟨_, rfl, kf_put p ⟨v, rfl, iα.mono l2.gg r1⟩⟩)⟩

/-! ### calls that change their objects -/
theorem cw_call {A : List (Slot K) → Os → (γ → Os → Prop) → Prop} {P : γ → Os → Prop} {xs : List (Slot K)} {E : XK} {ts : TA} {Q : VK} (osc rest : Os) (s : S0 b g h σ env os) (hp : os.Perm (osc ++ rest)) (e : EvA ts env os xs) (hA : A xs osc P)
    (k : ∀ v z osz g' h', P z osz → S0 b g' h' σ env (osz ++ rest) → Same g g' → iγ.R g' v z → Q v h') : tCall (SpW K A) [] E ts σ h Q :=
  e s fun vs g1 h1 l1 r1 => by
    have s1 := s.le l1
    have s2 := s1.perm hp
    have nd2 := s2.nd
    rw [List.map_append] at nd2
    have nds := List.nodup_append.mp nd2
    refine ⟨g1, xs, osc, P, hA, l1.gh, s2.ow.sub (fun p q => List.mem_append_left _ q) nds.1, by rw [List.append_nil]; exact r1, fun v z osz g2 h2 hz hf l2 o2 r2 => ?_⟩
    refine k v z osz g2 h2 hz (s2.after (fun p q => List.mem_append_left _ q) l2 o2 hf (fun p q => ?_) ?_) (l1.gg.trans l2.gg) r2
    · rcases List.mem_append.mp q with q | q
      · exact .inl q
      · exact .inr ⟨List.mem_append_right _ q, fun z => nds.2.2 _ z _ (List.mem_map_of_mem q) rfl⟩
    · rw [List.map_append]
      refine List.nodup_append.mpr ⟨o2.nd, nds.2.1, fun x hx y hy exy => ?_⟩
      subst exy
      obtain ⟨p, hpz, rfl⟩ := List.mem_map.mp hx
      obtain ⟨q, hq, e1⟩ := List.mem_map.mp hy
      rcases hf p hpz with z | z
      · exact nds.2.2 _ z _ (List.mem_map_of_mem hq) e1.symm
      · obtain ⟨_, u, e2, _⟩ := s2.own q (List.mem_append_right _ hq)
        rw [e1, z] at e2
        cases e2
theorem st_setCW {A : List (Slot K) → Os → (γ → Os → Prop) → Prop} {P : γ → Os → Prop} {xs : List (Slot K)} {E : XK} {ts : TA} (osc rest : Os) (s : S0 b g h σ env os) (hp : os.Perm (osc ++ rest)) (e : EvA ts env os xs) (hA : A xs osc P)
    (k : ∀ z osz, P z osz → ∀ v g' h', S0 b g' h' (σ.set i (some v)) (env.set i (sv z)) (osz ++ rest) → D.nx (σ.set i (some v)) h') : tAsg (tCall (SpW K A) [] E ts) (gName i) D σ h :=
  cw_call osc rest s hp e hA fun v z osz g' h' hz s' _ r => k z osz hz v g' h' (s'.set ⟨v, rfl, r⟩)
end
end Lw
/-! Displays of dicts; helps for calls in expressions. -/
namespace Lw
open PySem PySem.Spec PyProof.Rows L2
section
variable {K : PySem.W.Frag}
variable {env : Env K} {os osc os' osz rest : Os} {ta tb te tx tl : TE} {tt t u : TT} {α β γ : Type} [iα : Py K α] [iβ : Py K β] [iγ : Py K γ]
variable {b : Bs} {g h g' h' : Hp} {σ : L2.St} {D : Ends} {t1 t2 : TS} {i j m : Nat} {l : Addr}
def EvP (trs : List (TE × TE)) (env : Env K) (os : Os) (kvs : List (Key × Slot K)) : Prop :=
  ∀ {b : Bs} {g h : Hp} {σ : L2.St} {Q : List (V × V) → Hp → Prop}, S0 b g h σ env os → (∀ vs g' h', Le g h g' h' → KR g' vs kvs → Q (vs.map fun kv => (kV kv.1, kv.2)) h') → tPairs trs σ h Q
theorem ep_nil : EvP (K := K) [] env os [] := fun {b g h σ Q} s q => q [] g h (Le.refl s.gh) .nil
theorem ep_cons {trs : List (TE × TE)} {kvs : List (Key × Slot K)} {k : Str} {x : α} (hv : Ev te env os x) (hr : EvP trs env os kvs) : EvP ((tC (.str k), te) :: trs) env os ((.inr k, sv x) :: kvs) := fun {b g h σ Q} s q =>
  hv s fun v g1 h1 l1 r1 => hr (s.le l1) fun vs g2 h2 l2 r2 => q ((.inr k, v) :: vs) g2 h2 (l1.trans l2) (.cons ⟨rfl, v, rfl, iα.mono l2.gg r1⟩ r2)
def mergeS (kvs more : List (Key × Slot K)) : List (Key × Slot K) := more.foldl (fun acc kv => putS acc kv.1 kv.2) kvs
theorem kr_merge {vs ws : List (Key × V)} {kvs more : List (Key × Slot K)} (r : KR g ws more) (p : KR g vs kvs) : KR g (mergeK vs ws) (mergeS kvs more) := by
  induction r generalizing vs kvs with
  | nil => exact p
  | @cons a c as cs q _ ih =>
    have : KR g (putK vs a.1 a.2) (putS kvs c.1 c.2) := by rw [q.1]; exact kf_put p q.2
    exact ih this
theorem st_retD {trs : List (TE × TE)} {kvs : List (Key × Slot K)} (s : S0 b g h σ env os) (e : EvP trs env os kvs) (hl : kvs.length ≤ 15) (k : ∀ l g' h', S0 b g' h' σ env (os ++ [(l, Own.dic (mergeS [] kvs))]) → D.rt (.ref l) h') : tRet (tDisp trs) D σ h := fun p hp => by
  have s1 := s.add (w := Own.dic (K := K) []) (o := .dK []) hp ⟨[], rfl, .nil⟩
  refine e s1.drop fun vs g2 h2 l2 r2 => ?_
  have s2 := s1.le l2
  obtain ⟨ws, e2, r⟩ := own_dic s2 last_at
  cases r
  have s3 := s2.put (w' := Own.dic (mergeS [] kvs)) (o := .dK (mergeK [] vs)) last_at ⟨_, rfl, kr_merge r2 .nil⟩
  rw [last_set] at s3
  exact ⟨e2, vs, rfl, by rw [kr_len r2]; exact hl, k p g2 _ s3⟩
theorem st_setD {trs : List (TE × TE)} {kvs : List (Key × Slot K)} (s : S0 b g h σ env os) (e : EvP trs env os kvs) (hl : kvs.length ≤ 15) (k : ∀ l g' h', S0 b g' h' (σ.set i (some (.ref l))) (env.set i (sv (V.ref l))) (os ++ [(l, Own.dic (mergeS [] kvs))]) → D.nx (σ.set i (some (.ref l))) h') : tAsg (tDisp trs) (gName i) D σ h := fun p hp => by
  have s1 := s.add (w := Own.dic (K := K) []) (o := .dK []) hp ⟨[], rfl, .nil⟩
  refine e s1.drop fun vs g2 h2 l2 r2 => ?_
  have s2 := s1.le l2
  obtain ⟨ws, e2, r⟩ := own_dic s2 last_at
  cases r
  have s3 := s2.put (w' := Own.dic (mergeS [] kvs)) (o := .dK (mergeK [] vs)) last_at ⟨_, rfl, kr_merge r2 .nil⟩
  rw [last_set] at s3
  exact ⟨e2, vs, rfl, by rw [kr_len r2]; exact hl, k p g2 _ (s3.set ⟨_, rfl, rfl⟩)⟩
/-- a draw: f(bag, size) gives some r, 0 ≤ r < size; the bag is told as before -/
def a_take (K : PySem.W.Frag) (B : Own) (M : Int) : List (Slot K) → Os → (Int → Os → Prop) → Prop := fun xs os P => ∃ (l : Addr) (n : Int), xs = [sv (V.ref l), sv n] ∧ os = [(l, B)] ∧ (0 < n ∧ n ≤ M) ∧ ∀ r, 0 ≤ r → r < n → P r os
theorem ew_take {B : Own} {M : Int} {PN : Int → Prop} {E : XK} (hx : env[i]? = some (.val V inferInstance (V.ref l))) (ho : os[m]? = some (l, B)) (hn : EvW te env os PN) (hp : ∀ n, PN n → 0 < n ∧ n ≤ M) :
    EvW (tCall (SpW K (a_take K B M)) [] E (tCons (tVar i) (tCons te tNil))) env os (fun r => ∃ n, PN n ∧ 0 ≤ r ∧ r < n) := .mk fun {b g h σ os2 Q} s q =>
  ev_var hx s.drop fun v g1 h1 l1 r1 => hn.run (s.le l1) fun w n g2 h2 pn s2 e2 r2 => by
    cases r1
    have hm := List.mem_append_left os2 (List.mem_of_getElem? ho)
    refine ⟨g2, [sv (V.ref l), sv n], [(l, B)], fun r os' => (0 ≤ r ∧ r < n) ∧ os' = [(l, B)], ⟨l, n, rfl, rfl, hp n pn, fun r h0 h1 => ⟨⟨h0, h1⟩, rfl⟩⟩, s2.gh, ?_, arg2 rfl r2, ?_⟩
    · exact s2.ow.sub (fun p hp => by rw [List.mem_singleton] at hp; rw [hp]; exact hm) (by simp)
    · rintro v r os' g3 h3 ⟨hr, rfl⟩ _ l3 o3 r3
      exact q v r g3 h3 ⟨n, pn, hr⟩ (s2.afterSame (fun p hp => by rw [List.mem_singleton] at hp; rw [hp]; exact hm) l3 o3) (l1.gg.trans (e2.trans l3.gg)) r3
/-- .. of a known size -/
theorem ew_takeC {B : Own} {M : Int} {n : Int} {E : XK} (hx : env[i]? = some (.val V inferInstance (V.ref l))) (ho : os[m]? = some (l, B)) (hn : Ev te env os n) (hp : 0 < n ∧ n ≤ M) :
    EvW (tCall (SpW K (a_take K B M)) [] E (tCons (tVar i) (tCons te tNil))) env os (fun r => 0 ≤ r ∧ r < n) :=
  EvW.imp (ew_take (PN := fun y => y = n) hx ho (Ev.w hn) fun _ e => by rw [e]; exact hp) fun r ⟨_, e, h⟩ => by rw [e] at h; exact h
end
end Lw
/-! A choice whose two ways go on alike; room. -/
namespace Lw
open PySem PySem.Spec PyProof.Rows L2
section
variable {K : PySem.W.Frag} {env : Env K} {os : Os} {t : TT} {b : Bs} {g h : Hp} {σ : L2.St} {D : Ends} {t1 t2 : TS}
theorem st_if_cut {c : Bool} (J : Env K → Os → Prop) (s : S0 b g h σ env os) (e : EvT t env os c) (k : ∀ env' os' g' h' σ', J env' os' → S0 b g' h' σ' env' os' → D.nx σ' h')
    (k1 : c = true → ∀ g' h' (N : L2.St → Hp → Prop), S0 b g' h' σ env os → (∀ env' os' g' h' σ', J env' os' → S0 b g' h' σ' env' os' → N σ' h') → t1 { D with nx := N } σ h')
    (k2 : c = false → ∀ g' h' (N : L2.St → Hp → Prop), S0 b g' h' σ env os → (∀ env' os' g' h' σ', J env' os' → S0 b g' h' σ' env' os' → N σ' h') → t2 { D with nx := N } σ h') : tIfS t t1 t2 D σ h :=
  st_if s e (fun hc g' h' s => k1 hc g' h' D.nx s k) (fun hc g' h' s => k2 hc g' h' D.nx s k)
theorem st_if_cutW {P : Bool → Prop} (J : Env K → Os → Prop) (s : S0 b g h σ env os) (e : EvTW t env os P) (k : ∀ env' os' g' h' σ', J env' os' → S0 b g' h' σ' env' os' → D.nx σ' h')
    (k1 : P true → ∀ g' h' (N : L2.St → Hp → Prop), S0 b g' h' σ env os → (∀ env' os' g' h' σ', J env' os' → S0 b g' h' σ' env' os' → N σ' h') → t1 { D with nx := N } σ h')
    (k2 : P false → ∀ g' h' (N : L2.St → Hp → Prop), S0 b g' h' σ env os → (∀ env' os' g' h' σ', J env' os' → S0 b g' h' σ' env' os' → N σ' h') → t2 { D with nx := N } σ h') : tIfS t t1 t2 D σ h :=
  st_ifW s e (fun hc g' h' s => k1 hc g' h' D.nx s k) (fun hc g' h' s => k2 hc g' h' D.nx s k)
theorem st_setQ {α : Type} [iα : Py K α] {i : Nat} {te : TE} {x : α} (P : α → Prop) (s : S0 b g h σ env os) (e : Ev te env os x) (hx : P x) (k : ∀ x, P x → ∀ v g' h', S0 b g' h' (σ.set i (some v)) (env.set i (sv x)) os → D.nx (σ.set i (some v)) h') : tAsg te (gName i) D σ h :=
  st_set s e (fun v g' h' s => k x hx v g' h' s)
end
theorem mod_bd {x m : Int} (h : 0 < m) : 0 ≤ x % m ∧ x % m < m := ⟨Int.emod_nonneg _ (by omega), Int.emod_lt_of_pos _ h⟩
end Lw
/-! A list or a tuple; dicts whose keys are tuples of ints (as sets of keys); calls of defs that may raise. -/
namespace Lw
open PySem PySem.Spec PyProof.Rows L2
/-- a list or a tuple -/
structure Sq (α : Type) where
  isL : Bool
  l : List α
section
variable {K : PySem.W.Frag}
instance instSq {α : Type} [i : Py K α] : Py K (Sq α) := ⟨fun g v x => ∃ a vs, v = .ref a ∧ ((x.isL = true ∧ SqL K g a vs) ∨ (x.isL = false ∧ g a = some (.tup vs))) ∧ Paired (i.R g) vs x.l, fun {g g' v x} e h => by
  obtain ⟨a, vs, h1, h2, h3⟩ := h
  refine ⟨a, vs, h1, ?_, paired_mono (fun _ _ q => i.mono e q) h3⟩
  rcases h2 with ⟨q, h2⟩ | ⟨q, h2⟩
  · exact .inl ⟨q, e.seq h2⟩
  · exact .inr ⟨q, e _ _ h2⟩⟩
variable {env : Env K} {os : Os} {ta tb te tx tl : TE} {t u tt : TT} {α β γ : Type} [iα : Py K α] [iβ : Py K β] [iγ : Py K γ]
variable {b : Bs} {g h g' h' : Hp} {σ : L2.St} {D : Ends} {t1 t2 : TS} {i j m : Nat} {l : Addr}
theorem ev_sqL {xs : List α} (ha : Ev te env os xs) : Ev te env os (Sq.mk true xs) := fun {b g h σ Q} s q => ha s fun v g1 h1 l1 ⟨a, vs, h2, h3, h4⟩ => q v g1 h1 l1 ⟨a, vs, h2, .inl ⟨rfl, h3⟩, h4⟩
theorem ev_sqT {xs : Tup α} (ha : Ev te env os xs) : Ev te env os (Sq.mk false xs.l) := fun {b g h σ Q} s q => ha s fun v g1 h1 l1 ⟨a, vs, h2, h3, h4⟩ => q v g1 h1 l1 ⟨a, vs, h2, .inr ⟨rfl, h3⟩, h4⟩
def iSq (K : PySem.W.Frag) (tl : TE) : TI := fun σ H R => tl σ H fun x H1 => ∃ a, x = .ref a ∧ (((∃ xs, SqL K H1 a xs) ∧ R (Itl K a) H1) ∨ ((∃ xs, SqT K H1 a xs) ∧ R (Itt K a) H1))
theorem pi_sq {X : Cx} {tg l : Expr} {tl : TE} (hl : PE X l tl) : PI X tg l (iSq X.K tl) := by
  refine ⟨fun pins s σ H R I h => ?_⟩
  refine thn (hl.run pins s σ H _ I h) fun v s1 ⟨x, H1, I1, r1, q1⟩ => ?_
  obtain ⟨a, e, q⟩ := q1
  subst e
  cases r1
  rcases q with ⟨⟨xs, hq⟩, q⟩ | ⟨⟨xs, hq⟩, q⟩
  · obtain ⟨its, rv, p, hz⟩ := I1.list hq
    refine wpAny_pyIter_list p.isList ?_
    refine ⟨s1.heap.objs.size, [s1.heap.objs.size], _, _, H1, rfl, I1.kept (t' := s1.toks) fun b o e => Heap.get?_push_of_some _ e, turn_list a _, ⟨_, Heap.get?_push_size _ rfl, rfl, rfl⟩, fun b hb => ?_, q⟩
    have e : b = s1.heap.objs.size := by simpa using hb
    subst e
    exact I1.fpOk (Nat.le_refl _) (I1.hok.fresh (Nat.le_refl _))
  · obtain ⟨its, rv, p, hz⟩ := I1.tuple hq
    refine wpAny_pyIter_tuple (show s1.heap.IsTuple a its.toArray from p) ?_
    refine ⟨s1.heap.objs.size, [s1.heap.objs.size], _, _, H1, rfl, I1.kept (t' := s1.toks) fun b o e => Heap.get?_push_of_some _ e, turn_tuple a _, ⟨_, Heap.get?_push_size _ rfl, rfl, rfl⟩, fun b hb => ?_, q⟩
    have e : b = s1.heap.objs.size := by simpa using hb
    subst e
    exact I1.fpOk (Nat.le_refl _) (I1.hok.fresh (Nat.le_refl _))
theorem st_for_sq {tb : TS} {gt : TG} {ws : List Nat} {f : Env K → α → Env K} {xs : Sq α} (hg : TgtF (K := K) gt ws f) (s : S0 b g h σ env os) (e : Ev te env os xs) (I : Nat → Env K → Os → Prop) (h0 : I 0 env os)
    (hs : ∀ n x, xs.l[n]? = some x → Turn1 b D tb I n (fun e => f e x)) (hd : ∀ env' os' g' h' σ', I xs.l.length env' os' → S0 b g' h' σ' env' os' → D.nx σ' h') : tFor (iSq K te) gt tb D σ h := by
  refine e s fun v g1 h1 l1 r1 => ?_
  obtain ⟨a, vs, rfl, hq, hp⟩ := r1
  rcases hq with ⟨_, hq⟩ | ⟨_, hq⟩
  · refine ⟨a, rfl, .inl ⟨⟨vs, l1.gh.seq hq⟩, for_list (K := K) (a := a) (xs := vs) (fun n σ' h' => ∃ g' env' os', Same g1 g' ∧ I n env' os' ∧ S0 b g' h' σ' env' os') ⟨g1, env, os, Same.refl _, h0, s.le l1⟩ (fun n σ' h' _ ⟨g', _, _, e1, _, s'⟩ => (e1.trans s'.gh).seq hq) ?_ ?_⟩⟩
    · rintro n x σ' h' hx ⟨g', env', os', e1, hI, s'⟩
      obtain ⟨y, hy, ry⟩ := paired_getL hp hx
      exact turn1_go hg (hs n y hy) hI s' (iα.mono e1 ry) fun env2 os2 g2 h2 σ2 e2 hI2 s2 => ⟨g2, env2, os2, e1.trans e2, hI2, s2⟩
    · rintro σ' h' ⟨g', env', os', e1, hI, s'⟩
      rw [hp.length] at hI
      exact hd env' os' g' h' σ' hI s'
  · refine ⟨a, rfl, .inr ⟨⟨vs, same_tup l1.gh hq⟩, for_tup (K := K) (a := a) (xs := vs) (fun n σ' h' => ∃ g' env' os', Same g1 g' ∧ I n env' os' ∧ S0 b g' h' σ' env' os') ⟨g1, env, os, Same.refl _, h0, s.le l1⟩ (fun n σ' h' _ ⟨g', _, _, e1, _, s'⟩ => same_tup (e1.trans s'.gh) hq) ?_ ?_⟩⟩
    · rintro n x σ' h' hx ⟨g', env', os', e1, hI, s'⟩
      obtain ⟨y, hy, ry⟩ := paired_getL hp hx
      exact turn1_go hg (hs n y hy) hI s' (iα.mono e1 ry) fun env2 os2 g2 h2 σ2 e2 hI2 s2 => ⟨g2, env2, os2, e1.trans e2, hI2, s2⟩
    · rintro σ' h' ⟨g', env', os', e1, hI, s'⟩
      rw [hp.length] at hI
      exact hd env' os' g' h' σ' hI s'
/-! ### dicts with tuples of ints as keys, taken as sets of keys -/
abbrev kI (k : List Int) : List Key := k.map Sum.inl
theorem kI_inj : ∀ {a b : List Int}, kI a = kI b → a = b
  | [], [], _ => rfl
  | [], _ :: _, h => by cases h
  | _ :: _, [], h => by cases h
  | x :: a, y :: b, h => by
    have h1 := List.cons.inj h
    rw [Sum.inl.inj h1.1, kI_inj h1.2]
theorem kI_v (k : List Int) : (kI k).map kV = k.map V.int := by unfold kI; rw [List.map_map]; rfl
/-- S: which keys are there; at most n -/
def Own.keys (S : List Int → Bool) (n : Nat) : Own := ⟨fun _ o => ∃ kvs, o = .dT kvs ∧ kvs.length ≤ n ∧ ∀ k, (valV kvs (kI k)).isSome = S k, fun {_ _ _} _ h => h⟩
structure KSet where
  S : List Int → Bool
instance : Py K KSet := ⟨fun g v x => ∃ a kvs, v = .ref a ∧ g a = some (.dT kvs) ∧ ∀ k, (valV kvs (kI k)).isSome = x.S k, fun {g g' v x} e ⟨a, kvs, h1, h2, h3⟩ => ⟨a, kvs, h1, e _ _ h2, h3⟩⟩
theorem own_keys {S : List Int → Bool} {n : Nat} (s : S0 b g h σ env os) (ho : os[m]? = some (l, Own.keys S n)) : ∃ kvs, h l = some (.dT kvs) ∧ kvs.length ≤ n ∧ ∀ k, (valV kvs (kI k)).isSome = S k := by
  obtain ⟨n1, o, e1, kvs, rfl, p1, p2⟩ := s.own _ (List.mem_of_getElem? ho)
  exact ⟨kvs, e1, p1, p2⟩
theorem tup_ints {g : Hp} {v : V} {x : Tup Int} (r : (instTup (K := K) (α := Int)).R g v x) : ∃ a, v = .ref a ∧ g a = some (.tup (x.l.map V.int)) := by
  obtain ⟨a, vs, h1, h2, h3⟩ := r
  refine ⟨a, h1, ?_⟩
  rw [h2, paired_eq (f := V.int) h3]
/-- k in d, d owned -/
theorem ev_kin {S : List Int → Bool} {n : Nat} {x : Tup Int} (ha : Ev ta env os x) (hx : env[i]? = some (.val V inferInstance (V.ref l))) (ho : os[m]? = some (l, Own.keys S n)) : Ev (tDIn ta (tVar i)) env os (S x.l) := fun {b g h σ Q} s q =>
  ha s fun v g1 h1 l1 r1 => ev_var hx (s.le l1) fun w g2 h2 l2 r2 => by
    cases r2
    obtain ⟨a, rfl, e⟩ := tup_ints r1
    obtain ⟨kvs, e1, _, p⟩ := own_keys ((s.le l1).le l2) ho
    refine ⟨l, valV kvs (kI x.l), rfl, DGet.t e1 (by rw [kI_v]; exact l2.gh _ _ (l2.gg _ _ e)), q _ _ _ (l1.trans l2) (by rw [p]; rfl)⟩
theorem ev_knin {S : List Int → Bool} {n : Nat} {x : Tup Int} (ha : Ev ta env os x) (hx : env[i]? = some (.val V inferInstance (V.ref l))) (ho : os[m]? = some (l, Own.keys S n)) : Ev (tDNotIn ta (tVar i)) env os (!S x.l) := fun {b g h σ Q} s q =>
  ha s fun v g1 h1 l1 r1 => ev_var hx (s.le l1) fun w g2 h2 l2 r2 => by
    cases r2
    obtain ⟨a, rfl, e⟩ := tup_ints r1
    obtain ⟨kvs, e1, _, p⟩ := own_keys ((s.le l1).le l2) ho
    refine ⟨l, valV kvs (kI x.l), rfl, DGet.t e1 (by rw [kI_v]; exact l2.gh _ _ (l2.gg _ _ e)), q _ _ _ (l1.trans l2) (by rw [p]; rfl)⟩
/-- .. d a value -/
theorem ev_kinV {x : Tup Int} {y : KSet} (ha : Ev ta env os x) (hb : Ev tb env os y) : Ev (tDIn ta tb) env os (y.S x.l) := fun {b g h σ Q} s q =>
  ha s fun v g1 h1 l1 r1 => hb (s.le l1) fun w g2 h2 l2 r2 => by
    obtain ⟨a, rfl, e⟩ := tup_ints r1
    obtain ⟨d, kvs, rfl, e1, p⟩ := r2
    exact ⟨d, valV kvs (kI x.l), rfl, DGet.t (l2.gh _ _ e1) (by rw [kI_v]; exact l2.gh _ _ (l2.gg _ _ e)), q _ _ _ (l1.trans l2) (by rw [p]; rfl)⟩
theorem ev_kninV {x : Tup Int} {y : KSet} (ha : Ev ta env os x) (hb : Ev tb env os y) : Ev (tDNotIn ta tb) env os (!y.S x.l) := fun {b g h σ Q} s q =>
  ha s fun v g1 h1 l1 r1 => hb (s.le l1) fun w g2 h2 l2 r2 => by
    obtain ⟨a, rfl, e⟩ := tup_ints r1
    obtain ⟨d, kvs, rfl, e1, p⟩ := r2
    exact ⟨d, valV kvs (kI x.l), rfl, DGet.t (l2.gh _ _ e1) (by rw [kI_v]; exact l2.gh _ _ (l2.gg _ _ e)), q _ _ _ (l1.trans l2) (by rw [p]; rfl)⟩
/-- x = {} -/
theorem st_newK (s : S0 b g h σ env os) (k : ∀ l h', S0 b g h' (σ.set i (some (.ref l))) (env.set i (sv (V.ref l))) (os ++ [(l, Own.keys (fun _ => false) 0)]) → D.nx (σ.set i (some (.ref l))) h') : tAsg tDNewT (gName i) D σ h :=
  fun p hp => k p _ ((s.add (w := Own.keys (fun _ => false) 0) (o := .dT []) hp ⟨[], rfl, Nat.le_refl _, fun _ => rfl⟩).set ⟨_, rfl, rfl⟩)
/-- d[k] = e -/
theorem st_kput {S : List Int → Bool} {n : Nat} {x : Tup Int} {y : β} (s : S0 b g h σ env os) (hv : Ev te env os y) (hx : env[i]? = some (.val V inferInstance (V.ref l))) (ho : os[m]? = some (l, Own.keys S n)) (ha : Ev ta env os x) (hn : n < 1000000)
    (k : ∀ g' h', S0 b g' h' σ env (os.set m (l, Own.keys (fun j => S j || decide (j = x.l)) (n + 1))) → D.nx σ h') : sDPut (tVar i) ta te D σ h :=
  hv s fun v g1 h1 l1 r1 => ev_var hx (s.le l1) fun w g2 h2 l2 r2 => ha ((s.le l1).le l2) fun z g3 h3 l3 r3 => by
    cases r2
    have s3 := ((s.le l1).le l2).le l3
    obtain ⟨a, rfl, e⟩ := tup_ints r3
    obtain ⟨kvs, e1, p1, p2⟩ := own_keys s3 ho
    refine ⟨l, _, rfl, DPut.t e1 (k := kI x.l) (by rw [kI_v]; exact s3.gh _ _ e) (Nat.lt_of_le_of_lt p1 (Nat.lt_trans hn (by decide))), k g3 _ (s3.put (w' := Own.keys (fun j => S j || decide (j = x.l)) (n + 1)) ho ⟨_, rfl, Nat.le_trans (length_putK _ _ _) (by omega), fun j => ?_⟩)⟩
    rw [valV_put]
    by_cases hj : j = x.l
    · subst hj; rw [if_pos rfl]; simp
    · rw [if_neg (fun z => hj (kI_inj z)), p2]; simp [hj]
/-- an owned object that is not the caller's becomes a value -/
theorem S0.freezeG {w : Own} {x : α} (s : S0 b g h σ env os) (hx : env[i]? = some (.val V inferInstance (V.ref l))) (ho : os[m]? = some (l, w)) (nl : l ∉ b.ls) (conv : ∀ g o, w.P g o → ∀ g', Same g g' → g' l = some o → iα.R g' (.ref l) x) : ∃ g', S0 b g' h σ (env.set i (sv x)) (os.eraseIdx m) := by
  obtain ⟨n1, o, e1, p1⟩ := s.own _ (List.mem_of_getElem? ho)
  have hm := List.mem_of_getElem? ho
  have nb : b.h l = none := (s.ol _ hm).resolve_right nl
  have lg : Same g (upd g l o) := fun c u q => by rw [upd_ne (ne_of_none q n1)]; exact q
  have nin : ∀ p ∈ os.eraseIdx m, p ∈ os ∧ p.1 ≠ l := fun p hp => by
    obtain ⟨j, hj, hjm⟩ := List.mem_eraseIdx_iff_getElem?.mp hp
    exact ⟨List.mem_of_getElem? hjm, os_other s.nd hjm ho hj⟩
  refine ⟨upd g l o, fun c u q => ?_, by rw [List.length_set]; exact s.len, fun n t e => ?_, fun p hp => ?_, ?_, s.gg.trans lg, s.fr, s.th, fun a n m => ?_, fun p hp => s.ol p (nin p hp).1⟩
  · by_cases hc : c = l
    · subst hc; rw [upd_same] at q; cases q; exact e1
    · rw [upd_ne hc] at q; exact s.gh _ _ q
  · by_cases hn : i = n
    · subst hn
      have hl : i < env.length := (List.getElem?_eq_some_iff.mp hx).1
      rw [List.getElem?_set_self hl] at e
      cases e
      obtain ⟨v, q1, q2⟩ := s.sl i _ hx
      cases q2
      exact ⟨_, q1, conv g o p1 _ lg upd_same⟩
    · rw [List.getElem?_set_ne hn] at e
      exact Slot.ok_mono lg (s.sl n t e)
  · obtain ⟨hp1, hp2⟩ := nin p hp
    obtain ⟨n2, o2, e2, q2⟩ := s.own p hp1
    exact ⟨by rw [upd_ne hp2]; exact n2, o2, e2, p.2.mono lg q2⟩
  · have : ((os.eraseIdx m).map (·.1)).Sublist (os.map (·.1)) := (List.eraseIdx_sublist os m).map _
    exact this.nodup s.nd
  · rw [upd_ne (fun z => by rw [z, nb] at m; exact m rfl)]
    exact s.new a n m
theorem S0.freezeK {S : List Int → Bool} {n : Nat} (s : S0 b g h σ env os) (hx : env[i]? = some (.val V inferInstance (V.ref l))) (ho : os[m]? = some (l, Own.keys S n)) (hb : b.ls = []) : ∃ g', S0 b g' h σ (env.set i (sv (KSet.mk S))) (os.eraseIdx m) :=
  s.freezeG hx ho (by rw [hb]; exact fun z => nomatch z) fun g o ⟨kvs, h1, _, h3⟩ g' _ e => ⟨l, kvs, rfl, by rw [e, h1], h3⟩
/-! ### calls of defs that may raise -/
theorem sE_call {A : List (Slot K) → (γ → Prop) → (Addr → List (Str × Slot K) → Prop) → Prop} {P : γ → Prop} {PE : Addr → List (Str × Slot K) → Prop} {xs : List (Slot K)} {E : XK} {ts : TA} {Q : VK} (s : S0 b g h σ env os) (e : EvA ts env os xs) (hA : A xs P PE)
    (k : ∀ v z g' h', P z → S0 b g' h' σ env os → Same g g' → iγ.R g' v z → Q v h') (kx : ∀ C fs d ws g' h', PE C fs → S0 b g' h' σ env os → h' d = none → FsR g' ws fs → E (.ref C) (some d) (upd h' d (.xd ws))) : tCall (SpE K A) [] E ts σ h Q :=
  e s fun vs g1 h1 l1 r1 => ⟨g1, xs, P, PE, hA, l1.gh, by rw [List.append_nil]; exact r1, fun v z g2 h2 hz l2 r2 => k v z g2 h2 hz ((s.le l1).le l2) (l1.gg.trans l2.gg) r2, fun C fs d ws g2 h2 he l2 hd hf => kx C fs d ws g2 h2 he ((s.le l1).le l2) hd hf⟩
theorem sE_callS {A : List (Slot K) → (γ → Prop) → (Addr → List (Str × Slot K) → Prop) → Prop} {P : γ → Prop} {PE : Addr → List (Str × Slot K) → Prop} {xs : List (Slot K)} {E : L2.St → XK} {ts : TA} {Q : VK} (s : S0 b g h σ env os) (e : EvA ts env os xs) (hA : A xs P PE)
    (k : ∀ v z g' h', P z → S0 b g' h' σ env os → Same g g' → iγ.R g' v z → Q v h') (kx : ∀ C fs d ws g' h', PE C fs → S0 b g' h' σ env os → h' d = none → FsR g' ws fs → E σ (.ref C) (some d) (upd h' d (.xd ws))) : tCallS (SpE K A) E ts σ h Q :=
  e s fun vs g1 h1 l1 r1 => ⟨g1, xs, P, PE, hA, l1.gh, r1, fun v z g2 h2 hz l2 r2 => k v z g2 h2 hz ((s.le l1).le l2) (l1.gg.trans l2.gg) r2, fun C fs d ws g2 h2 he l2 hd hf => kx C fs d ws g2 h2 he ((s.le l1).le l2) hd hf⟩
/-- .. that does not raise here -/
theorem ev_callE {A : List (Slot K) → (γ → Prop) → (Addr → List (Str × Slot K) → Prop) → Prop} {xs : List (Slot K)} {E : XK} {ts : TA} {z : γ} (e : EvA ts env os xs) (hA : A xs (fun y => y = z) fun _ _ => False) : Ev (tCall (SpE K A) [] E ts) env os z := fun {b g h σ Q} s q =>
  e s fun vs g1 h1 l1 r1 => ⟨g1, xs, _, _, hA, l1.gh, by rw [List.append_nil]; exact r1, fun v z' g2 h2 hz l2 r2 => q v g2 h2 (l1.trans l2) (hz ▸ r2), fun C fs d ws g2 h2 he => he.elim⟩
end
end Lw
/-! for x in reversed(a list). -/
namespace Lw
open PySem PySem.Spec PyProof.Rows L2
theorem rev_get {α : Type} {xs : List α} {i : Nat} (h : i < xs.length) : xs.reverse[i]? = xs[xs.length - 1 - i]? := by rw [List.getElem?_reverse h]
theorem for_rev {K : PySem.W.Frag} {a : Addr} {xs : List V} {g : TG} {tb : TS} {D : Ends} {σ : L2.St} {H : Hp} (Pv : Nat → L2.St → Hp → Prop) (h0 : Pv 0 σ H) (hl : ∀ i σ H, i ≤ xs.length → Pv i σ H → SqL K H a xs)
    (hs : ∀ i x σ H, xs.reverse[i]? = some x → Pv i σ H → g x σ H fun σ2 H2 => tb { D with nx := Pv (i + 1), ct := Pv (i + 1), bk := D.nx } σ2 H2) (hd : ∀ σ H, Pv xs.length σ H → D.nx σ H) :
    ∃ W : Nat → Nat → L2.St → Hp → Prop, (∃ m, W 0 m σ H) ∧ ∀ i m σ H, W i m σ H →
      ((Itv K a xs.length).stop i H ∧ D.nx σ H) ∨ ((Itv K a xs.length).go i H ∧ ∃ N : L2.St → Hp → Prop, (∀ σ' H', N σ' H' → ∃ m', m' < m ∧ W (i + 1) m' σ' H') ∧ ∀ x H', (Itv K a xs.length).yld i H x H' → g x σ H' fun σ2 H2 => tb { D with nx := N, ct := N, bk := D.nx } σ2 H2) := by
  refine ⟨fun i m σ H => m = xs.length - i ∧ i ≤ xs.length ∧ Pv i σ H, ⟨xs.length, by simp, Nat.zero_le _, h0⟩, ?_⟩
  rintro i m σ H ⟨rfl, hi, p⟩
  have q := hl i σ H hi p
  by_cases hlt : i < xs.length
  · have hlt2 : xs.length - 1 - i < xs.length := by omega
    refine .inr ⟨⟨hlt, xs, xs[xs.length - 1 - i], q, by rw [List.getElem?_eq_getElem hlt2]⟩, Pv (i + 1), fun σ' H' p' => ⟨xs.length - (i + 1), by omega, rfl, hlt, p'⟩, fun x H' y => ?_⟩
    obtain ⟨e, y⟩ := y
    subst e
    exact hs i x σ _ (by rw [rev_get hlt]; exact y xs q) p
  · have e : i = xs.length := by omega
    subst e
    exact .inl ⟨Nat.le_refl _, hd σ H p⟩
section
variable {K : PySem.W.Frag} {env : Env K} {os : Os} {te : TE} {α : Type} [iα : Py K α] {b : Bs} {g h : Hp} {σ : L2.St} {D : Ends}
theorem st_for_rev {tb : TS} {gt : TG} {ws : List Nat} {f : Env K → α → Env K} {xs : List α} (hg : TgtF (K := K) gt ws f) (s : S0 b g h σ env os) (e : Ev te env os xs) (I : Nat → Env K → Os → Prop) (h0 : I 0 env os)
    (hs : ∀ n x, xs.reverse[n]? = some x → Turn1 b D tb I n (fun e => f e x)) (hd : ∀ env' os' g' h' σ', I xs.length env' os' → S0 b g' h' σ' env' os' → D.nx σ' h') : tFor (iRev K (tCons te tNil)) gt tb D σ h := by
  refine e s fun v g1 h1 l1 r1 => ?_
  obtain ⟨a, vs, rfl, hq, hp⟩ := r1
  refine ⟨a, vs, rfl, l1.gh.seq hq, for_rev (K := K) (a := a) (xs := vs) (fun n σ' h' => ∃ g' env' os', Same g1 g' ∧ I n env' os' ∧ S0 b g' h' σ' env' os') ⟨g1, env, os, Same.refl _, h0, s.le l1⟩ (fun n σ' h' _ ⟨g', _, _, e1, _, s'⟩ => (e1.trans s'.gh).seq hq) ?_ ?_⟩
  · rintro n x σ' h' hx ⟨g', env', os', e1, hI, s'⟩
    obtain ⟨y, hy, ry⟩ := paired_getL (paired_rev hp) hx
    exact turn1_go hg (hs n y hy) hI s' (iα.mono e1 ry) fun env2 os2 g2 h2 σ2 e2 hI2 s2 => ⟨g2, env2, os2, e1.trans e2, hI2, s2⟩
  · rintro σ' h' ⟨g', env', os', e1, hI, s'⟩
    rw [hp.length] at hI
    exact hd env' os' g' h' σ' hI s'
end
end Lw
namespace Lw
open PySem PySem.Spec PyProof.Rows L2
section
variable {K : PySem.W.Frag} {env : Env K} {os : Os} {ta tb te : TE} {α : Type} [iα : Py K α] {b : Bs} {g h : Hp} {σ : L2.St} {D : Ends} {i m : Nat} {l : Addr}
/-- return a new list, to be changed later -/
theorem st_retN {xs : List α} (s : S0 b g h σ env os) (e : EvN te env os xs) (k : ∀ l g' h', S0 b g' h' σ env (os ++ [(l, Own.lst K xs)]) → D.rt (.ref l) h') : tRet te D σ h :=
  e s fun l vs g1 h1 l1 hl r1 => k l g1 _ ((s.le l1).add (w := Own.lst K xs) hl ⟨vs, rfl, r1⟩)
theorem ev_bag {xs : List Int} (n : Nat) (hx : env[i]? = some (.val V inferInstance (V.ref l))) (ho : os[m]? = some (l, Own.lst K xs)) (hn : n < xs.length) : Ev (tOp (rIxL K) (tVar i) (tC (.int (n : Int)))) env os (xs.getD n 0) :=
  ev_ixO hx ho ev_int (by have := atI_getD (d := (0 : Int)) (xs := xs) (i := (n : Int)) (by omega) (by omega); rw [this, Int.toNat_natCast])
theorem Ev.held {xs : List α} (he : EvN te env os xs) : EvH te env os xs := EvN.held he
end
theorem getD_set_ne {xs : List Int} {i j : Nat} {v : Int} (h : i ≠ j) : (xs.set i v).getD j 0 = xs.getD j 0 := by
  rw [List.getD_eq_getElem?_getD, List.getD_eq_getElem?_getD, List.getElem?_set_ne h]
theorem getD_set_eq {xs : List Int} {i : Nat} {v : Int} (h : i < xs.length) : (xs.set i v).getD i 0 = v := by
  rw [List.getD_eq_getElem?_getD, List.getElem?_set_self h]; rfl
end Lw
namespace Lw
open PySem PySem.Spec PyProof.Rows L2
/-- a list that was made here (not the script, not a written one): it may stand in + -/
structure SL (α : Type) where
  l : List α
section
variable {K : PySem.W.Frag} {env : Env K} {os : Os} {te : TE} {α : Type} [iα : Py K α]
instance instSL {α : Type} [i : Py K α] : Py K (SL α) := ⟨fun g v xs => ∃ a vs, v = .ref a ∧ g a = some (.lst vs) ∧ Paired (i.R g) vs xs.l, fun {g g' v x} e ⟨a, vs, h1, h2, h3⟩ => ⟨a, vs, h1, e _ _ h2, paired_mono (fun _ _ q => i.mono e q) h3⟩⟩
theorem EvN.evS {xs : List α} (h : EvN te env os xs) : Ev te env os (SL.mk xs) := fun {b g h' σ Q} s q => h s fun l vs g1 h1 l1 hl p =>
  q _ (upd g1 l (.lst vs)) _ (l1.trans (Le.laid l1.gh hl)) ⟨l, vs, rfl, upd_same, pr_mono (Le.laid l1.gh hl).gg p⟩
theorem ev_weakS {xs : SL α} (h : Ev te env os xs) : Ev te env os xs.l := fun {b g h' σ Q} s q => h s fun v g1 h1 l1 ⟨a, vs, e1, e2, e3⟩ => q v g1 h1 l1 ⟨a, vs, e1, .inl (.inl e2), e3⟩
theorem eh_S {xs : SL α} (h : Ev te env os xs) : EvH te env os xs.l := fun {b g h' σ Q} s q => h s fun v g1 h1 l1 ⟨a, vs, e1, e2, e3⟩ => by subst e1; exact q a vs g1 h1 l1 (l1.gh _ _ e2) e3
end
end Lw
namespace Lw
open PySem PySem.Spec PyProof.Rows L2
/-- values that stand by themselves -/
class Imm (K : PySem.W.Frag) (α : Type) [i : Py K α] : Prop where
  im : ∀ {g g' : Hp} {v : V} {x : α}, i.R g v x → i.R g' v x
instance {K : PySem.W.Frag} : Imm K Int := ⟨fun h => h⟩
instance {K : PySem.W.Frag} : Imm K Bool := ⟨fun h => h⟩
instance {K : PySem.W.Frag} : Imm K Str := ⟨fun h => h⟩
section
variable {K : PySem.W.Frag} {env : Env K} {os : Os} {ta tb te : TE} {α β γ : Type} [iα : Py K α] [iβ : Py K β] [iγ : Py K γ] [im : Imm K γ] {i m : Nat} {l : Addr}
/-- a call f(owned list, e) of a def that changes nothing: the list stands as a value for the while of the call -/
theorem ev_callO {A : List (Slot K) → (γ → Prop) → Prop} {xs : List α} {y : β} {z : γ} {E : XK} (hx : env[i]? = some (.val V inferInstance (V.ref l))) (ho : os[m]? = some (l, Own.lst K xs)) (hb : Ev te env os y) (hA : A [sv xs, sv y] (fun w => w = z)) :
    Ev (tCall (SpR K A) [] E (tCons (tVar i) (tCons te tNil))) env os z := fun {b g h σ Q} s q =>
  ev_var hx s fun v g1 h1 l1 r1 => hb (s.le l1) fun w g2 h2 l2 r2 => by
    cases r1
    have s2 := (s.le l1).le l2
    obtain ⟨n1, o, e1, vs, rfl, p1⟩ := s2.own _ (List.mem_of_getElem? ho)
    have n1 : g2 l = none := n1
    have lg : Same g2 (upd g2 l (.lst vs)) := fun c u q => by rw [upd_ne (ne_of_none q n1)]; exact q
    have gh : Same (upd g2 l (.lst vs)) h2 := fun c u q => by
      by_cases hc : c = l
      · subst hc; rw [upd_same] at q; cases q; exact e1
      · rw [upd_ne hc] at q; exact s2.gh _ _ q
    refine ⟨upd g2 l (.lst vs), [sv xs, sv y], _, hA, gh, .cons ⟨_, rfl, l, vs, rfl, .inl (.inl upd_same), pr_mono lg p1⟩ (.cons ⟨w, rfl, iβ.mono lg r2⟩ .nil), fun v' z' g3 h3 hz l3 r3 => ?_⟩
    subst hz
    refine q v' (fun a => if a = l then none else g3 a) h3 (l1.trans (l2.trans ⟨fun c u q => ?_, l3.hh, fun c u q => ?_, fun a n k => ?_⟩)) (im.im r3)
    · have : c ≠ l := ne_of_none q n1
      show (if c = l then none else g3 c) = some u
      rw [if_neg this]
      exact l3.gg _ _ (lg _ _ q)
    · have : c ≠ l := fun z => by
        have q' : (if c = l then none else g3 c) = some u := q
        rw [if_pos z] at q'
        cases q'
      have q' : (if c = l then none else g3 c) = some u := q
      rw [if_neg this] at q'
      exact l3.gh _ _ q'
    · show (if a = l then none else g3 a) = none
      by_cases hc : a = l
      · rw [if_pos hc]
      · rw [if_neg hc]
        exact l3.new a (by rw [upd_ne hc]; exact n) k
end
end Lw
/-! sorted of a list of tuples of ints. -/
namespace Lw
open PySem PySem.Spec PyProof.Rows L2
section
variable {prog : Program} {w : World} {A : Around} {E : Value → Shared → Prop} {s : Shared}
theorem sort_small {a : Addr} {vs : List Value} {n : Nat} {P : PySem.Fin → Shared → Prop} (ho : s.heap.get? a = some (seqObj "list" vs.toArray n)) (h1 : vs.length ≤ 1)
    (h : ∀ out : Array Value, out.toList.Perm vs → P (.done (.ret .none)) { s with heap := sortedHeap s.heap a vs out }) :
    wpAny (model prog w) A (Builtin.«list.sort» ⟨[.ref a], []⟩) P E s := by
  refine SK.plain_sort (r := fun _ => 0) ho (by omega) (fun h2 Q hQ => ?_) fun ps out h1 h2 h3 => ?_
  · exfalso; omega
  · exact h out (TS.out_rank (r := fun _ => 0) h1 h2 h3).1
theorem sorted_small {l : Addr} {vs : List Value} {Q : Value → Shared → Prop} (hl : s.heap.IsList l vs.toArray) (h1 : vs.length ≤ 1)
    (h : ∀ out : Array Value, out.toList.Perm vs → Q (.ref (s.heap.objs.size + 1)) { s with heap := sortedAll s.heap vs out }) :
    wpAny (model prog w) A (call (.builtin "sorted") [.ref l]) Q E s := by
  refine Calls.call_function_entry kind_sorted plain_sorted entry_sorted (args_sorted1 _) ?_
  unfold Builtin.«sorted»
  refine wpAny_bind (m := checkCount "sorted" 1 1 _) (wpAny_pure ?_)
  refine wpAny_bind (collect_list hl ?_ (by rw [sizeLine_eq]; omega))
  refine wpAny_bind (wpAny_newList ?_ (by rw [sizeLine_eq]; omega))
  have hsz : ((s.heap.push (seqObj "list" #[] 0)).update s.heap.objs.size (Obj.mapSeq (· ++ vs.toArray))).objs.size = s.heap.objs.size + 1 := by
    rw [Heap.size_update, size_push']
  have hoL : (((s.heap.push (seqObj "list" #[] 0)).update s.heap.objs.size (Obj.mapSeq (· ++ vs.toArray))).push (seqObj "list" vs.toArray 0)).get? (s.heap.objs.size + 1) = some (seqObj "list" vs.toArray 0) := by
    rw [← hsz]; exact Heap.get?_push_size _ rfl
  show wpAny _ _ _ _ _ { s with heap := ((s.heap.push (seqObj "list" #[] 0)).update s.heap.objs.size (Obj.mapSeq (· ++ vs.toArray))).push (seqObj "list" vs.toArray 0) }
  rw [hsz]
  refine wpAny_bind (wpAny_holding (wpAny_call_entry slot_list_sort ⟨_, hoL, rfl⟩ entry_list_sort (sort_small hoL h1 fun out a1 => ⟨_, rfl, ?_⟩) (args_list_sort _)))
  exact wpAny_pure ⟨_, rfl, h out a1⟩
end
theorem perm_small {α : Type} {xs ys : List α} (h : ys.length ≤ 1) (p : xs.Perm ys) : xs = ys := by
  cases ys with
  | nil => exact List.perm_nil.mp p
  | cons y ys =>
    cases ys with
    | nil => exact List.perm_singleton.mp p
    | cons z ys => simp at h
def rSort1 (K : PySem.W.Frag) : List V → Hp → VK → Prop := fun vs H Q => ∃ (a : Addr) (xs : List V), vs = [V.ref a] ∧ SqL K H a xs ∧ xs.length ≤ 1 ∧ ∀ p, H p = none → Q (.ref p) (upd H p (.lst xs))
theorem cr_sort1 {X : Cx} : CallR X (.builtin "sorted") (rSort1 X.K) := by
  intro pins s σ H vs us Q I r h
  obtain ⟨a, xs, rfl, hs, h1, q⟩ := h
  obtain ⟨its, rv, hl, hz⟩ := I.list hs
  rw [Vals.ref1 r]
  have hlen : its.length = xs.length := rv.length.symm
  refine sorted_small hl.isList (by omega) fun out hp => ?_
  obtain ⟨ep, he'⟩ := PyProof.Rows.sortedAll_at s.heap its out
  have e : out.toList = its := perm_small (by omega) hp
  refine ⟨.ref _, upd H (s.heap.objs.size + 1) (.lst xs), I.laid (t' := s.toks) (fun _ _ => PyProof.Rows.sortedAll_old) (Nat.le_succ _) ⟨hz, out.toList, ep, by rw [e]; exact rv, he'⟩, rfl, q _ (I.hok.fresh (Nat.le_succ _))⟩
def rSortG (K : PySem.W.Frag) (d : Nat) (B : Int) : List V → Hp → VK → Prop := fun vs H Q => rSort1 K vs H Q ∨ (1 ≤ d ∧ rSortU K d B vs H Q)
theorem cr_sortG {X : Cx} (d : Nat) (B : Int) : CallR X (.builtin "sorted") (rSortG X.K d B) := by
  intro pins s σ H vs us Q I r h
  rcases h with h | ⟨hd, h⟩
  · exact cr_sort1 pins s σ H vs us Q I r h
  · exact cr_sortT hd pins s σ H vs us Q I r h
theorem paired_perm {α β : Type} {F : α → β → Prop} {xs ys : List α} (p : xs.Perm ys) : ∀ {zs : List β}, Paired F ys zs → ∃ ws, Paired F xs ws ∧ ws.Perm zs := by
  induction p with
  | nil => intro zs h; cases h; exact ⟨[], .nil, List.Perm.nil⟩
  | cons x _ ih =>
    intro zs h
    cases h with
    | cons r t =>
      obtain ⟨ws, h1, h2⟩ := ih t
      exact ⟨_ :: ws, .cons r h1, h2.cons _⟩
  | swap x y l =>
    intro zs h
    cases h with
    | cons r t =>
      cases t with
      | cons r2 t => exact ⟨_, .cons r2 (.cons r t), List.Perm.swap ..⟩
  | trans _ _ ih1 ih2 =>
    intro zs h
    obtain ⟨ws, h1, h2⟩ := ih2 h
    obtain ⟨us, h3, h4⟩ := ih1 h1
    exact ⟨us, h3, h4.trans h2⟩
/-- two arrangements, one by <, one by ≤, are one -/
theorem sorted_unique {α : Type} {c : α → Int} : ∀ {xs ys : List α}, xs.Perm ys → xs.Pairwise (fun a b => c a ≤ c b) → ys.Pairwise (fun a b => c a < c b) → xs = ys
  | [], ys, p, _, _ => (List.nil_perm.mp p).symm
  | x :: xs, [], p, _, _ => nomatch List.perm_nil.mp p
  | x :: xs, y :: ys, p, h1, h2 => by
    obtain ⟨a1, a2⟩ := List.pairwise_cons.mp h1
    obtain ⟨b1, b2⟩ := List.pairwise_cons.mp h2
    have e : x = y := by
      rcases List.mem_cons.mp (p.mem_iff.mp List.mem_cons_self) with e | hx
      · exact e
      · rcases List.mem_cons.mp (p.mem_iff.mpr List.mem_cons_self) with e | hy
        · exact e.symm
        · have := a1 y hy
          have := b1 x hx
          omega
    subst e
    rw [sorted_unique (List.Perm.cons_inv p) a2 b2]
section
variable {K : PySem.W.Frag} {env : Env K} {os : Os} {te : TE} {i m : Nat} {l : Addr}
/-- sorted(an owned list of tuples of ints): zs, the same items by their order -/
theorem en_sortO {xs zs : List (Tup Int)} {d : Nat} {B : Int} (hx : env[i]? = some (.val V inferInstance (V.ref l))) (ho : os[m]? = some (l, Own.lst K xs)) (h64 : xs.length < 64) (hd : ∀ x ∈ xs, x.l.length = d ∧ TS.Bd B x.l) (hz : zs.Perm xs) (hp : zs.Pairwise fun a b => TS.code B a.l < TS.code B b.l) (h0 : d = 0 → xs.length ≤ 1) :
    EvN (tCB (rSortG K d B) (tCons (tVar i) tNil)) env os zs := fun {b g h σ Q} s q =>
  ev_var hx s fun v g1 h1 l1 r1 => by
    cases r1
    have s1 := s.le l1
    obtain ⟨vs, e, p⟩ := own_seq s1 ho
    by_cases hs : xs.length ≤ 1
    · refine .inl ⟨l, vs, rfl, SqL.of e, by rw [p.length]; exact hs, fun t ht => q t vs g1 h1 l1 ht ?_⟩
      have : zs = xs := perm_small hs hz
      rw [this]; exact p
    · have hd1 : 1 ≤ d := by
        rcases Nat.eq_zero_or_pos d with z | z
        · exact absurd (h0 z) hs
        · exact z
      have tup : ∀ x y, (instTup (K := K) (α := Int)).R g1 x y → TupI K h1 x y.l := fun x y r => by
        obtain ⟨a, e1, e2⟩ := tup_ints r
        exact ⟨a, e1, .inl (.inl (l1.gh _ _ e2))⟩
      refine .inr ⟨hd1, l, vs, rfl, SqL.of e, by rw [p.length]; exact h64, fun x hx => ?_, fun ys t hperm hpw ht => ?_⟩
      · obtain ⟨y, hy, r⟩ := paired_all p x hx
        exact ⟨y.l, tup x y r, hd y hy⟩
      · obtain ⟨ws, pw, pp⟩ := paired_perm hperm p
        have hws : ws.Pairwise fun a b => TS.code B a.l ≤ TS.code B b.l := by
          clear pp hperm
          have key : ∀ {ys : List V} {ws : List (Tup Int)}, Paired ((instTup (K := K) (α := Int)).R g1) ys ws → ys.Pairwise (fun x y => ∀ n m, TupI K h1 x n → TupI K h1 y m → TS.code B n ≤ TS.code B m) → ws.Pairwise fun a b => TS.code B a.l ≤ TS.code B b.l := by
            intro ys ws pw
            induction pw with
            | nil => intro _; exact List.Pairwise.nil
            | @cons y w ys ws r t ih =>
              intro hq
              obtain ⟨q1, q2⟩ := List.pairwise_cons.mp hq
              refine List.pairwise_cons.mpr ⟨fun w' hw' => ?_, ih q2⟩
              have : ∃ y' ∈ ys, (instTup (K := K) (α := Int)).R g1 y' w' := by
                clear ih hq q1 q2
                induction t with
                | nil => cases hw'
                | cons r' t' ih =>
                  rcases List.mem_cons.mp hw' with rfl | hw'
                  · exact ⟨_, List.mem_cons_self, r'⟩
                  · obtain ⟨y', h1, h2⟩ := ih hw'
                    exact ⟨y', List.mem_cons_of_mem _ h1, h2⟩
              obtain ⟨y', hy', r'⟩ := this
              exact q1 y' hy' _ _ (tup _ _ r) (tup _ _ r')
          exact key pw hpw
        have : ws = zs := sorted_unique (c := fun a : Tup Int => TS.code B a.l) (pp.trans hz.symm) hws hp
        subst this
        exact q t ys g1 h1 l1 ht pw
end
end Lw
/-! More rules with effects: indices drawn, comprehensions over tuples, guarded tests, pop. -/
namespace Lw
open PySem PySem.Spec PyProof.Rows L2 RZ
section
variable {K : PySem.W.Frag} {α β γ : Type} [iα : Py K α] [iβ : Py K β] [iγ : Py K γ] {env : Env K} {os : Os} {ta tb te tl : TE} {t u tt : TT} {i m : Nat} {l : Addr}
theorem ew_ixO {xs : List α} {PI : Int → Prop} (d : α) (hx : env[i]? = some (.val V inferInstance (V.ref l))) (ho : os[m]? = some (l, Own.lst K xs)) (hb : EvW tb env os PI) (hi : ∀ n, PI n → 0 ≤ n ∧ n < xs.length) :
    EvW (tOp (rIxL K) (tVar i) tb) env os (fun z => ∃ n, PI n ∧ z = xs.getD n.toNat d) := .mk fun {b g h σ os2 Q} s q => by
  refine ev_var hx s fun v g1 h1 l1 r1 => hb.run (s.le l1) fun w n g2 h2 p s2 e2 r2 => ?_
  cases r1
  have ho2 : (os ++ os2)[m]? = some (l, Own.lst K xs) := by
    rw [List.getElem?_append_left (List.getElem?_eq_some_iff.mp ho).1]; exact ho
  obtain ⟨vs, e, pp⟩ := own_seq s2 ho2
  obtain ⟨v, e', r⟩ := atI_map pp (atI_getD (d := d) (hi n p).1 (hi n p).2)
  exact ⟨l, vs, n, v, rfl, r2, SqL.of e, e', q _ _ _ _ ⟨n, p, rfl⟩ s2 (l1.gg.trans e2) r⟩
theorem ewt_andG {c : Bool} (h1 : EvT t env os c) (h2 : c = true → EvTW u env os fun _ => True) : EvTW (tAnd t u) env os (fun z => z = true → c = true) := .mk fun {b g h σ os2 Q} s q => (EvT.w h1).run s fun d g1 h' pd s1 e1 => by
  cases d with
  | true => exact (h2 pd.symm).run s1 fun d g2 h2 _ s2 e2 => q d _ _ (fun _ => pd.symm) s2 (e1.trans e2)
  | false => exact q _ _ _ (fun z => nomatch z) s1 e1
theorem ew_lcT {xs : Tup α} {vs : List Nat} {gt : TG} {f : Env K → α → Env K} {p : α → Bool} {P : α → β → Prop} (d : β) (hg : TgtF (K := K) gt vs f) (hx : Ev tl env os xs) (ht : ∀ x ∈ xs.l, EvT tt (f (wiped env vs) x) os (p x))
    (he : ∀ x ∈ xs.l, p x = true → EvW te (f (wiped env vs) x) os (P x)) (hl : xs.l.length ≤ 1000000) : EvNW (tLc (iTup K tl) gt tt te vs) env os (fun ys => Paired (fun y x => P x y) ys (xs.l.filter p)) := .mk fun {b g h σ os2 Q} s q => by
  refine hx s.drop fun v g1 h1 l1 r1 => ?_
  obtain ⟨a, us, rfl, hq, hp⟩ := r1
  have s1 := s.le l1
  refine ⟨a, rfl, ⟨us, same_tup l1.gh hq⟩, fun Dd hD => lc_tup (K := K) (a := a) (xs := us) (fun n H => ∃ acc : List β, Paired (fun y x => P x y) acc ((xs.l.take n).filter p) ∧ LwI K env (os ++ os2) b g1 h1 σ vs Dd acc H) ⟨[], .nil, LwI.start s1 hD vs⟩ (fun n H _ ⟨acc, _, I⟩ => ?_) (fun n x H hn ⟨acc, pr, I⟩ => ?_) (fun H ⟨acc, pr, I⟩ => ?_)⟩
  · obtain ⟨g', s', e1⟩ := I.ex
    exact same_tup (e1.trans s'.gh) hq
  · obtain ⟨y, hy, ry⟩ := paired_getL hp hn
    have hm := List.mem_of_getElem? hy
    refine I.turn (P := P y) hg (fun g' e => iα.mono e ry) ?_ ?_ (small_filter hy pr hl) wipe_wipe (fun z H' pz I' => ⟨_, paired_snoc hy pr pz, I'⟩) d
    · exact fun {b g h σ Q} s q => ht y hm s.drop fun g' h' l => q g' h' l
    · exact fun hc => .mk fun {b g h σ os3 Q} s q => (he y hm hc).run (os2 := os2 ++ os3) (by rw [← List.append_assoc]; exact s) fun v x g' h' px s' e r => q v x g' h' px (by rw [List.append_assoc]; exact s') e r
  · rw [hp.length, List.take_length] at pr
    exact I.done s1 fun l ws g' h' s' e hn' r => q l ws acc g' h' pr s' (l1.gg.trans e) hn' r
variable {b : Bs} {g h : Hp} {σ : L2.St}
/-- an owned list kept from here on, as one made here -/
theorem S0.freezeS {m : Nat} {l : Addr} {xs : List α} (s : S0 b g h σ env os) (hx : env[i]? = some (.val V inferInstance (V.ref l))) (ho : os[m]? = some (l, Own.lst K xs)) (hb : b.ls = []) : ∃ g', S0 b g' h σ (env.set i (sv (SL.mk xs))) (os.eraseIdx m) := by
  obtain ⟨n1, o, e1, vs, rfl, p1⟩ := s.own _ (List.mem_of_getElem? ho)
  have hm := List.mem_of_getElem? ho
  have nb : b.h l = none := by
    rcases s.ol _ hm with z | z
    · exact z
    · rw [hb] at z; cases z
  have lg : Same g (upd g l (.lst vs)) := fun c u q => by rw [upd_ne (ne_of_none q n1)]; exact q
  have nin : ∀ p ∈ os.eraseIdx m, p ∈ os ∧ p.1 ≠ l := fun p hp => by
    obtain ⟨j, hj, hjm⟩ := List.mem_eraseIdx_iff_getElem?.mp hp
    refine ⟨List.mem_of_getElem? hjm, fun z => ?_⟩
    have a1 : (os.map (·.1))[j]? = some l := by rw [List.getElem?_map, hjm]; exact congrArg some z
    have a2 : (os.map (·.1))[m]? = some l := by rw [List.getElem?_map, ho]; rfl
    exact hj ((List.getElem?_inj (by rw [List.length_map]; exact (List.getElem?_eq_some_iff.mp hjm).1) s.nd).mp (a1.trans a2.symm))
  refine ⟨upd g l (.lst vs), fun c u q => ?_, by rw [List.length_set]; exact s.len, fun n t e => ?_, fun p hp => ?_, ?_, s.gg.trans lg, s.fr, s.th, fun a n m => ?_, fun p hp => s.ol p (nin p hp).1⟩
  · by_cases hc : c = l
    · subst hc; rw [upd_same] at q; cases q; exact e1
    · rw [upd_ne hc] at q; exact s.gh _ _ q
  · by_cases hn : i = n
    · subst hn
      have hl : i < env.length := (List.getElem?_eq_some_iff.mp hx).1
      rw [List.getElem?_set_self hl] at e
      cases e
      obtain ⟨v, q1, q2⟩ := s.sl i _ hx
      cases q2
      exact ⟨_, q1, l, vs, rfl, upd_same, pr_mono lg p1⟩
    · rw [List.getElem?_set_ne hn] at e
      exact Slot.ok_mono lg (s.sl n t e)
  · obtain ⟨hp1, hp2⟩ := nin p hp
    obtain ⟨n2, o2, e2, q2⟩ := s.own p hp1
    exact ⟨by rw [upd_ne hp2]; exact n2, o2, e2, p.2.mono lg q2⟩
  · have : ((os.eraseIdx m).map (·.1)).Sublist (os.map (·.1)) := (List.eraseIdx_sublist os m).map _
    exact this.nodup s.nd
  · rw [upd_ne (fun z => by rw [z, nb] at m; exact m rfl)]
    exact s.new a n m
theorem inDK {X : Cx} (hu : X.A.units + 65 < cLine) (h : X.K = K := by rfl) : OpR X (compareOp .In) (rInD K) := h ▸ op_inD hu
/-- x in a list of data of any depth -/
theorem ev_inD {n : Nat} [d : PyD K α n] {x : α} {ys : List α} {c : Bool} (ha : Ev ta env os x) (hb : Ev tb env os ys) (hc : c = true ↔ x ∈ ys) (ox : d.ok x) (oy : ∀ y ∈ ys, d.ok y) (hd : n + 1 ≤ 64 := by decide) : Ev (tOp (rInD K) ta tb) env os c := fun {b g h σ Q} s q =>
  ha s fun v g1 h1 l1 r1 => hb (s.le l1) fun w g2 h2 l2 r2 => by
    have e : ((ys.map d.d).any fun z => PyData.eqv z (d.d x)) = c := by
      rw [Bool.eq_iff_iff, hc, List.any_map, List.any_eq_true]
      constructor
      · rintro ⟨y, hy, q⟩
        rw [← d.eq.mp q]
        exact hy
      · exact fun h => ⟨x, h, d.eq.mpr rfl⟩
    refine ⟨d.d x, ys.map d.d, d.dp (l2.gg.trans l2.gh) r1, ?_, shaped_of ox (by omega), ?_, ?_⟩
    · obtain ⟨a, vs, rfl, q2, p⟩ := r2
      exact .lst (l2.gh.seq q2) (dp_all l2.gh p)
    · exact shaped_of (K := K) (x := ys) oy hd
    · rw [e]; exact q _ _ _ (l1.trans l2) rfl
theorem paired_erase {α β : Type} {F : α → β → Prop} {xs : List α} {ys : List β} (h : Paired F xs ys) (n : Nat) : Paired F (xs.eraseIdx n) (ys.eraseIdx n) := by
  induction h generalizing n with
  | nil => exact .nil
  | cons r h ih =>
    cases n with
    | zero => exact h
    | succ n => exact .cons r (ih n)
variable {D : Ends}
/-- x.pop(e), the value dropped -/
theorem st_popW {xs : List α} {PI : Int → Prop} (s : S0 b g h σ env os) (hx : env[i]? = some (.val V inferInstance (V.ref l))) (ho : os[m]? = some (l, Own.lst K xs)) (e : EvW te env os PI) (hi : ∀ n, PI n → 0 ≤ n ∧ n < xs.length ∧ n < 2 ^ 63)
    (k : ∀ n, PI n → ∀ g' h', S0 b g' h' σ env (os.set m (l, Own.lst K (xs.eraseIdx n.toNat))) → D.nx σ h') : tDrop (tBM K "list" rPopAt (tVar i) (tCons te tNil)) D σ h := by
  unfold tDrop tBM
  refine ev_var hx s fun v g1 h1 l1 r1 => ?_
  cases r1
  have s1 := s.le l1
  obtain ⟨n1, o, e1, vs, rfl, p1⟩ := s1.own _ (List.mem_of_getElem? ho)
  refine ⟨.inl ⟨rfl, vs, SqL.of e1⟩, e.go s1 fun v n g2 h2 px s2 l2 r2 => ?_⟩
  obtain ⟨n2, o, e2, ws, rfl, p2⟩ := s2.own _ (List.mem_of_getElem? ho)
  cases r2
  have hn := hi n px
  have hl := p2.length
  exact ⟨l, ws, n, n.toNat, ws[n.toNat]'(by omega), rfl, rfl, e2, by omega, hn.2.2, (by unfold seqIndex?; simp only [if_neg (show ¬ n < 0 by omega)]; split <;> first | rfl | (exfalso; simp at *; omega)), List.getElem?_eq_getElem _, k n px g2 _ (s2.put (w' := Own.lst K (xs.eraseIdx n.toNat)) ho ⟨_, rfl, paired_erase p2 _⟩)⟩
end
end Lw
/-! Defs called within an except suite (pure ones). -/
namespace Lw
open PySem PySem.Spec PyProof.Rows L2 L2H RZ
def CalH (P : Program) (w : World) (K : PySem.W.Frag) (mg : Str → Option Value) (base : Heap) (x : Str) (k : Nat) (ps : List Str) (sp : Sp) : Prop :=
  ∃ f fd, mg x = some (.ref f) ∧ PySem.W.keepIn K (.ref f) = true ∧ Binds K fd ps [] ∧ FnH P w K mg base CX0 k f fd ps sp
section
variable {fa : List He.Fa} {fn : List He.DefD} {ex : PySem.W.Frag → Bool} {K : PySem.W.Frag} {mg : Str → Option Value} {P : Program} {w : World} {base : Heap}
theorem Fx.calH (E : Fx fa fn ex K mg) (i j : Nat) {x : Str} {st : Stmt} {ps : List Str} {k : Nat} {sp : Sp} (hi : fn[i]? = some ⟨(x, none), x, x, defArgs st, defBody st, defScope st, [], []⟩) (hj : fa[j]? = some (.glo x))
    (hbi : ∀ (kV doc pm : Value) (an : Option Addr) (cdv ct : Value) (us : List Value), us.length = ps.length → bindArgs (PySem.W.fnOf x x (defArgs st) (defBody st) (defScope st) .none kV doc pm an cdv ct) ⟨us, []⟩ = pure (ps.zip us))
    (hf : ∀ f fd, FunD K x x (defArgs st) (defBody st) (defScope st) [] [] f fd → FnH P w K mg base CX0 k f fd ps sp) : CalH P w K mg base x k ps sp := by
  obtain ⟨fd, F⟩ := E.d.def_ i hi
  exact ⟨_, fd, E.gref j hj, F.kp, F.bindsN hbi, hf _ fd F⟩
theorem okRDH {γ : Type} [iγ : Py K γ] {x qual : Str} {st : Stmt} {f : Addr} {fd : FuncData} {N ps : List Str} {k : Nat} {A : List (Slot K) → (γ → Prop) → Prop} {dvs : List V} {kws : List (Str × V)} (F : FunD K x qual (defArgs st) (defBody st) (defScope st) dvs kws f fd) (S : FnScope N ps (defScope st)) (hlen : ∀ xs P', A xs P' → xs.length = ps.length)
    (hb : ∀ (cdv : Value) (Ar : Around) (outer : List PySem.Env) (s : Shared) (H : Hp) (E : XK) (p : Addr × Obj), Hot1 Ar p → RoomH k (Ar.deeper (envOfC qual (defScope st) s.heap.objs.size f cdv)) → ∀ (xs : List (Slot K)) (P' : γ → Prop), A xs P' →
      ∃ t, PSs (cxH CX0 P w K mg base N qual (defScope st) f cdv Ar outer s H E p).nox (defBody st) t ∧
        ∀ (g : Hp) (σ : L2.St) (Q : VK), S0 ⟨[], g, H⟩ g H σ (xs ++ List.replicate (N.length - xs.length) .unk) [] →
          (∀ v z g' h' σ' env' os', P' z → S0 ⟨[], g, H⟩ g' h' σ' (env' : Env K) os' → iγ.R g' v z → Q v h') → t { nx := fun _ H' => Q .non H', rt := Q } σ H) : FnH P w K mg base CX0 (k + 1) f fd ps (SpR K A) := by
  obtain ⟨oc, od, dV, kV, doc, pm, an, cdv, ct, osl, rfl, lk, hcd, _, _⟩ := F.ex
  refine fn_ofH lk hcd S (fun vs H Q E h => ?_) (fun A outer s H vs Q E p hp hr h => ?_)
  · obtain ⟨g, xs, P', hA, _, r, _⟩ := h
    rw [args_len r]
    exact hlen xs P' hA
  · obtain ⟨g, xs, P', hA, gh, r, q⟩ := h
    obtain ⟨t, ht, hq⟩ := hb cdv A outer s H E p hp hr xs P' hA
    exact ⟨t, ht.nox, hq g _ Q (S0.start gh r) fun v z g' h' σ' env' os' hz s' rz => q v z g' h' hz (s'.fin rfl) rz⟩
end
section
variable {X : Cx} {x : Str} {k : Nat} {ps : List Str} {sp : Sp} {e : Expr} {es : List Expr} {p pos : Pos} {t : TA}
/-- a call of such a def in a suite -/
theorem pe_cH (C : CalH X.prog X.w X.K X.mg X.base x k ps sp) (hr : RoomH k X.A) (hc : HotC X) (hg : Gl X x) (ha : PA X (e :: es) t) (hdb : (x == ("__debug__" : Str)) = false := by decide)
    (he : starEach (e :: es) X.env = (false, eval e X.env) :: starEach es X.env := by rfl) (hpl : (backTo pos (starEach es X.env)).any (·.1) = false := by rfl) : PE X (.Call (.Name x p) (e :: es) [] pos) (tCallS sp (fun _ => E0) t) := by
  obtain ⟨f, fd, gm, kp, bi, ok⟩ := C
  exact pe_callH ok hr hc hg gm kp bi (fun _ _ _ _ _ _ _ h => (h : False).elim) ha hdb he hpl
end
/-- a caught exception: object, dict, class; its fields are fs -/
structure Xcp {K : PySem.W.Frag} (fs : List (Str × Slot K)) : Type where
  a : Addr
  d : Addr
  C : Addr
instance instXcp {K : PySem.W.Frag} {fs : List (Str × Slot K)} : Py K (Xcp fs) := ⟨fun g v x => v = .ref x.a ∧ ∃ ws, g x.d = some (.xd ws) ∧ FsR g ws fs, fun {g g' v x} e ⟨h1, ws, h2, h3⟩ => ⟨h1, ws, e _ _ h2, fsr_mono e h3⟩⟩
theorem fsr_at {K : PySem.W.Frag} {g : Hp} {f : Str} {t : Slot K} : ∀ {ws : List (Str × V)} {fs : List (Str × Slot K)}, FsR g ws fs → fs.lookup f = some t → ∃ v, ws.lookup f = some v ∧ t.ok g (some v)
  | _, _, .nil, h => nomatch h
  | (an, av) :: ws, (cn, cs) :: fs, .cons r p, h => by
    obtain ⟨e, r⟩ := r
    have e : an = cn := e
    subst e
    rw [List.lookup_cons] at h ⊢
    cases q : (f == an) with
    | true => rw [q] at h; cases h; exact ⟨_, rfl, r⟩
    | false => rw [q] at h; exact fsr_at p h
section
variable {K : PySem.W.Frag} {α β γ : Type} [iα : Py K α] [iγ : Py K γ] {env : Env K} {os : Os} {b : Bs} {g h : Hp} {σ : L2.St} {D : Ends} {i : Nat}
/-- err.f -/
theorem ev_xf {fs : List (Str × Slot K)} {x : Xcp fs} {f : Str} {y : α} (hx : env[i]? = some (sv x)) (hf : fs.lookup f = some (sv y)) : Ev (tXf x.a (.ref x.C) (some x.d) x.C f (tVar i)) env os y := fun {b g h σ Q} s q =>
  ev_var hx s fun v g1 h1 l1 r1 => by
    obtain ⟨rfl, ws, hd, p⟩ := r1
    obtain ⟨v, hv, v', e, r⟩ := fsr_at p hf
    cases e
    exact ⟨rfl, rfl, x.d, ws, v, rfl, l1.gh _ _ hd, hv, q v g1 h1 l1 r⟩
/-- try: f(..) (the answer dropped) except C as n: .. -/
theorem st_tryE {A : List (Slot K) → (γ → Prop) → (Addr → List (Str × Slot K) → Prop) → Prop} {P : γ → Prop} {PE : Addr → List (Str × Slot K) → Prop} {xs : List (Slot K)} {ta : TA} {c : Value} {tsu : Addr → Value → Option Addr → TS} {Wout : WX}
    (s : S0 b g h σ env os) (e : EvA ta env os xs) (hA : A xs P PE) (hcls : ∀ C fs, PE C fs → PySem.W.exmOne K (.ref C) c = some true) (k : ∀ z, P z → ∀ g' h', S0 b g' h' σ env os → D.nx σ h')
    (kx : ∀ C fs (a d : Addr) g' h', PE C fs → S0 b g' h' (σ.set i (some (.ref a))) (env.set i (sv (Xcp.mk (fs := fs) a d C))) os → tsu a (.ref C) (some d) { nx := fun σ' H' => D.nx (σ'.set i none) H', rt := D.rt, bk := fun σ' H' => D.bk (σ'.set i none) H', ct := fun σ' H' => D.ct (σ'.set i none) H' } (σ.set i (some (.ref a))) h') :
    tDrop (tCallS (SpE K A) (WE (wAs K c i tsu Wout D)) ta) D σ h :=
  sE_callS s e hA (fun v z g' h' hz s' _ _ => k z hz g' h' s') fun C fs d ws g' h' he s' hd hf => by
    have le := Le.laid s'.gh hd (o := .xd ws)
    exact ⟨true, hcls C fs he, fun _ a ha => kx C fs a d _ _ he ((s'.le le).set ⟨_, rfl, rfl, ws, upd_same, fsr_mono le.gg hf⟩), fun z => nomatch z⟩
end
theorem hot_of {CX : CXT} {P : Program} {w : World} {K : PySem.W.Frag} {mg : Str → Option Value} {base : Heap} {N : List Str} {qual : Str} {scope : Scope} {f : Addr} {cd : Value} {A : Around} {outer : List PySem.Env} {s : Shared} {H : Hp} {E : XK} {p : Addr × Obj} (h : Hot1 A p) : HotC (cxH CX P w K mg base N qual scope f cd A outer s H E p).nox := ⟨p, h, List.mem_singleton.mpr rfl⟩
theorem RoomH.u64 {k : Nat} {A : Around} (r : RoomH k A) : A.units + 64 < cLine := by have := r.un; omega
section
variable {K : PySem.W.Frag} {α β : Type} [iα : Py K α] [iβ : Py K β] {env : Env K} {os : Os} {ta tb : TE}
/-- a pair at a drawn place -/
theorem ev_ixP0v {x : α × β} {n : Int} (ha : Ev ta env os x) (hb : Ev tb env os n) (hn : n = 0) : Ev (tOp (rIxT K) ta tb) env os x.1 := fun {b g h' σ Q} s q =>
  ha s fun v g1 h1 l1 r1 => hb (s.le l1) fun w g2 h2 l2 r2 => by
    obtain ⟨a, u, w, rfl, h3, h4, h5⟩ := r1
    subst hn
    exact ⟨a, [u, w], 0, u, rfl, r2, same_tup (l2.gg.trans l2.gh) h3, rfl, q _ _ _ (l1.trans l2) (iα.mono l2.gg h4)⟩
theorem ev_ixP1v {x : α × β} {n : Int} (ha : Ev ta env os x) (hb : Ev tb env os n) (hn : n = 1) : Ev (tOp (rIxT K) ta tb) env os x.2 := fun {b g h' σ Q} s q =>
  ha s fun v g1 h1 l1 r1 => hb (s.le l1) fun w g2 h2 l2 r2 => by
    obtain ⟨a, u, w, rfl, h3, h4, h5⟩ := r1
    subst hn
    exact ⟨a, [u, w], 1, w, rfl, r2, same_tup (l2.gg.trans l2.gh) h3, rfl, q _ _ _ (l1.trans l2) (iβ.mono l2.gg h5)⟩
theorem ev_lenP {x : α × β} (ha : Ev ta env os x) : Ev (tCB (fun xs H Q => ∃ p ys, xs = [V.ref p] ∧ (SqL K H p ys ∨ SqT K H p ys) ∧ Q (.int ys.length) H) (tCons ta tNil)) env os (2 : Int) := ev_cb1 ha fun v g h e r Q q => by
  obtain ⟨a, u, w, rfl, h3, h4, h5⟩ := r
  exact ⟨a, [u, w], rfl, .inr (same_tup e h3), q _ g h (Le.refl e) rfl⟩
end
section
variable {K : PySem.W.Frag} {γ : Type} [iγ : Py K γ] {env : Env K} {os : Os}
theorem ev_callS {A : List (Slot K) → (γ → Prop) → Prop} {xs : List (Slot K)} {E : L2.St → XK} {ts : TA} {z : γ} (e : EvA ts env os xs) (hA : A xs (fun y => y = z)) : Ev (tCallS (SpR K A) E ts) env os z := fun {b g h σ Q} s q => e s fun vs g1 h1 l1 r1 => ⟨g1, xs, _, hA, l1.gh, r1, fun v z' g2 h2 hz l2 r2 => q v g2 h2 (l1.trans l2) (hz ▸ r2)⟩
end
end Lw
/-! list(reversed(xs)). -/
namespace Lw
open PySem PySem.Spec PyProof.Rows L2 RT
section
variable {prog : Program} {w : World} {A : Around} {E : Value → Shared → Prop} {s : Shared}
/-- a list's own extension by a reversed walk over another list -/
theorem ext_rev {S it l : Addr} {ys : Array Value} {res : Value} {c₀ : Nat} {R : Result → Shared → Prop} (hh : A.in1.handled = none) (hit : s.heap.IsRevIter it l ((ys.size : Int) - 1)) (hl : s.heap.IsList l ys) (hne : l ≠ it) (hS1 : S ≠ it) (hS2 : S ≠ l) (hn : ys.size ≤ sizeLine)
    (hS : s.heap.get? S = some { cls := .type "list", data := .seq #[] c₀ })
    (hR : ∀ (h' : Heap) (tk : Nat) (acc : Array Value) (c' : Nat), (∀ b o, b ≠ it → b ≠ S → s.heap.get? b = some o → h'.get? b = some o) → ItemsOf (fun i v => ys[ys.size - 1 - i]? = some v) acc ys.size →
      h'.get? S = some { cls := .type "list", dict := none, data := .seq acc c', slots := #[] } → R (.ok (.ret res)) { s with heap := h', toks := tk }) :
    wpAny (model prog w) A.in1 (Builtin.List.listExtendWith (.ref S) (.ref it) res)
      (fun fin s' => match fin with | .done f => R (.ok f) s' | .again c' => c'.quiet = true ∧ codeAny (model prog w) A c' R s') (fun e s' => R (.error e) s') s := by
  have W := (Walks.listRev (prog := prog) (w := w) (A := A.in1) hh it l hne ys).toS
  have notin : S ∉ [it, l] := by simp only [List.mem_cons, List.not_mem_nil, or_false, not_or]; exact ⟨hS1, hS2⟩
  have tyIt : s.TypeIs (.ref it) "list_reverseiterator" := hit.typeIs
  have sameNo : Builtin.List.listSameRef (.ref S) (.ref it) = false := by simp [Builtin.List.listSameRef, hS1]
  unfold Builtin.List.listExtendWith
  refine wpAny_bind (wpAny_typeOf tyIt ?_)
  rw [if_neg (by rw [sameNo]; decide)]
  refine wpAny_bind (wpAny_pyIter_revIter hit ?_)
  refine wpAny_bind (wpAny_holding ?_)
  unfold Builtin.List.listLengthHint
  refine wpAny_bind (wpAny_specialOf tyIt nolen_lri ?_)
  show wpAny _ A.in1 (specialOf (Value.ref it) (Str.ofString "__length_hint__") >>= _) _ _ _
  refine wpAny_bind (wpAny_specialOf tyIt hint_lri ?_)
  generalize hid : ("list_reverseiterator.__length_hint__" : String) = id1
  wp_delta
  rw [show splitId id1 = some ("list_reverseiterator", "__length_hint__") from by subst hid; decide +kernel]
  subst hid
  refine wpAny_bind (wpAny_isInstance (b := true) tyIt (by rw [isSubtype_type]; kernel_rfl) ?_)
  refine wpAny_pure ?_
  rw [if_neg (by decide)]
  have e0 : ((ys.size : Nat) : Int) - 1 - ((0 : Nat) : Int) = (ys.size : Int) - 1 := by omega
  refine wpAny_pure ⟨plainId_quiet F.plain_extend_loop _, codeAny_extend_loopS W hn _ notin _ ys.size 0 _ _ _ rfl (Nat.zero_le _) ⟨Nat.zero_le _, by rw [e0]; exact hit, hl⟩ hS (ItemsOf.nil _) fun s' acc' c' hm hS' hacc => ?_⟩
  rw [Moved.eq_with hm]
  refine hR s'.heap s'.toks acc' c' (fun b o hb hbS e => hm.heap b o (fun hmem => ?_) e) hacc hS'
  rcases List.mem_cons.mp hmem with e' | hmem
  · exact hbS e'
  · exact hb (List.mem_singleton.mp hmem)
theorem lst_of_rev {it l : Addr} {ys : Array Value} {Q : Value → Shared → Prop} (hh : A.handled = none) (hit : s.heap.IsRevIter it l ((ys.size : Int) - 1)) (hl : s.heap.IsList l ys) (hne : l ≠ it) (hn : ys.size ≤ sizeLine)
    (hQ : ∀ (h' : Heap) (tk : Nat) (acc : Array Value) (c' : Nat), (∀ b o, b ≠ it → s.heap.get? b = some o → h'.get? b = some o) → ItemsOf (fun i v => ys[ys.size - 1 - i]? = some v) acc ys.size →
      h'.get? s.heap.objs.size = some { cls := .type "list", dict := none, data := .seq acc c', slots := #[] } → Q (.ref s.heap.objs.size) { s with heap := h', toks := tk }) :
    wpAny (model prog w) A (call (.type "list") [.ref it]) Q E s := by
  obtain ⟨oi, hoi, _⟩ := id hit
  obtain ⟨ol, hol, _⟩ := id hl
  have hSi : s.heap.objs.size ≠ it := Nat.ne_of_gt (Heap.lt_size hoi)
  have hSl : s.heap.objs.size ≠ l := Nat.ne_of_gt (Heap.lt_size hol)
  refine callType_codes (Q₁ := fun obj s₁ => obj = .ref s.heap.objs.size ∧ s₁ = { s with heap := s.heap.push { cls := .type "list", data := .seq #[] } }) F.called_list (F.typeCall_list_1 _) F.entry_list_init
    (code_list_new _ ⟨rfl, rfl⟩) fun obj s₁ both => ?_
  obtain ⟨rfl, rfl⟩ := both
  have new0 : (s.heap.push { cls := .type "list", data := .seq #[] }).get? s.heap.objs.size = some { cls := .type "list", data := .seq #[] } := Heap.get?_push_size _ rfl
  refine ⟨⟨_, new0, rfl⟩, F.args_list_init_2 _ _, ?_⟩
  show wpAny _ A.in1.in1 (do let old ← Builtin.List.listItems (.ref s.heap.objs.size); Builtin.List.listUpdate (.ref s.heap.objs.size) (fun _ => #[]); letGo old.toList.reverse; Builtin.List.listExtendWith (.ref s.heap.objs.size) (.ref it) .none) _ _ _
  refine wpAny_bind ?_
  unfold Builtin.List.listItems
  refine wpAny_bind (wpAny_seqItems new0 rfl (wpAny_pure ?_))
  show wpAny _ A.in1.in1 (updateSeq s.heap.objs.size (fun _ => #[]) >>= fun _ => letGo (#[] : Array Value).toList.reverse >>= fun _ => Builtin.List.listExtendWith (.ref s.heap.objs.size) (.ref it) .none) _ _ _
  refine wpAny_bind (wpAny_updateSeq new0 rfl ?_)
  have new1 := Heap.get?_update_self (Obj.mapSeq (fun _ => (#[] : Array Value))) new0 rfl
  have keep : ∀ b o, b ≠ s.heap.objs.size → s.heap.get? b = some o → ((s.heap.push { cls := .type "list", data := .seq #[] }).update s.heap.objs.size (Obj.mapSeq (fun _ => (#[] : Array Value)))).get? b = some o :=
    fun b o hb e => (Heap.get?_update_other _ _ (Ne.symm hb)).trans (Heap.get?_push_of_some _ e)
  refine wpAny_bind (wpAny_letGo ?_)
  refine ext_rev (A := A.in1) hh (hit.at fun o e => keep _ o (Ne.symm hSi) e) (hl.at fun o e => keep _ o (Ne.symm hSl) e) hne hSi hSl hn new1 fun h' tk acc c' hk hacc hS' => ?_
  refine ⟨rfl, hQ h' tk acc c' (fun b o hb e => ?_) hacc hS'⟩
  have hbS : b ≠ s.heap.objs.size := fun z => Nat.lt_irrefl _ (z ▸ Heap.lt_size e)
  exact hk b o hb hbS (keep b o hbS e)
end
section
variable {X : Cx}
def tLstRev (K : PySem.W.Frag) (te : TE) : TE := fun σ H Q => te σ H fun v H1 => ∃ (a : Addr) (xs : List V), v = .ref a ∧ SqL K H1 a xs ∧ ∀ p, H1 p = none → Q (.ref p) (upd H1 p (.lst xs.reverse))
theorem pe_listRev {e : Expr} {te : TE} {p p2 pos pos2 : Pos} (hc : X.calm = true) (hg : Gl X "list") (hm : X.mg "list" = none) (hg2 : Gl X "reversed") (hm2 : X.mg "reversed" = none) (he : PE X e te)
    (hs : starEach [e] X.env = (false, eval e X.env) :: starEach [] X.env := by rfl)
    (hs2 : starEach [.Call (.Name "reversed" p2) [e] [] pos2] X.env = (false, eval (.Call (.Name "reversed" p2) [e] [] pos2) X.env) :: starEach [] X.env := by rfl) :
    PE X (.Call (.Name "list" p) [.Call (.Name "reversed" p2) [e] [] pos2] [] pos) (tLstRev X.K te) := by
  refine ⟨fun pins s σ H Q I h => ?_⟩
  refine Call_ (ld_blt I hg hm PyProof.Rows.boot_list (PyProof.Rows.callWith_type1 (args_cons (Call_ (ld_blt I hg2 hm2 PyProof.Rows.boot_reversed (PyProof.Rows.callWith_type1 (args_cons (thn (he.run pins s σ H _ I h) fun u s1 ⟨v, H1, I1, r1, q1⟩ => args_nil ?_) hs) hs rfl))) hs2) hs2 rfl))
  obtain ⟨a, xs, ev, hq, q⟩ := q1
  subst ev
  obtain rfl : u = Value.ref a := r1
  obtain ⟨its, rv, p', hz⟩ := I1.list hq
  refine call_reversed_list p'.isList (args_nil ?_)
  have I2 : Inv X pins σ H1 { s1 with heap := s1.heap.push (revObj a ((its.toArray.size : Int) - 1)) } := I1.kept (t' := s1.toks) (fun b o e => Heap.get?_push_of_some _ e)
  obtain ⟨f0, f1, f2, f3, f4, f5⟩ := I1.fpOk (H' := H1) (b := s1.heap.objs.size) (Nat.le_refl _) (I1.hok.fresh (Nat.le_refl _))
  have hl := p'.isList
  obtain ⟨ol, hol, _⟩ := id hl
  have hne : a ≠ s1.heap.objs.size := Nat.ne_of_lt (Heap.lt_size hol)
  have hn : its.toArray.size ≤ sizeLine := by rw [List.size_toArray, ← rv.length]; exact hz
  refine lst_of_rev (s := { s1 with heap := s1.heap.push (revObj a ((its.toArray.size : Int) - 1)) }) (I1.ok.hd hc) ⟨_, Heap.get?_push_size _ rfl, rfl, rfl⟩ (hl.push _) hne hn fun h' tk acc c' hk hi hS => ?_
  have hsz : ({ s1 with heap := s1.heap.push (revObj a ((its.toArray.size : Int) - 1)) } : Shared).heap.objs.size = s1.heap.objs.size + 1 := by simp [Heap.push]
  refine ⟨.ref _, upd H1 _ (.lst xs.reverse), I2.turnedNew (t' := tk) (ch := [s1.heap.objs.size]) (ob := .lst xs.reverse) (fun b o hb e => hk b o (fun z => hb (by rw [z]; exact List.mem_cons_self)) e) (fun b hb => ?_) (Nat.le_refl _) (show ObjOk X.prog X.w _ _ _ (.lst xs.reverse) from ⟨by rw [List.length_reverse]; exact hz, acc.toList, c', vals_rev rv hi, ?_⟩), rfl, q _ (I2.hok.fresh (Nat.le_refl _))⟩
  · rw [List.mem_singleton] at hb
    subst hb
    exact ⟨f0, f1, f2, f3, f4, f5⟩
  · simpa using hS
end
section
variable {K : PySem.W.Frag} {env : Env K} {os : Os} {ta : TE} {α : Type} [iα : Py K α] {i m : Nat} {l : Addr}
theorem en_revL {xs : List α} (ha : Ev ta env os xs) : EvN (tLstRev K ta) env os xs.reverse := fun {b g h σ Q} s q =>
  ha s fun v g1 h1 l1 r1 => by
    obtain ⟨a, vs, rfl, h2, h3⟩ := r1
    exact ⟨a, vs, rfl, l1.gh.seq h2, fun p hp => q p _ g1 h1 l1 hp (paired_rev h3)⟩
theorem en_revO {xs : List α} (hx : env[i]? = some (.val V inferInstance (V.ref l))) (ho : os[m]? = some (l, Own.lst K xs)) : EvN (tLstRev K (tVar i)) env os xs.reverse := fun {b g h σ Q} s q =>
  ev_var hx s fun v g1 h1 l1 r1 => by
    cases r1
    obtain ⟨vs, e, p⟩ := own_seq (s.le l1) ho
    exact ⟨l, vs, rfl, SqL.of e, fun p' hp => q p' _ g1 h1 l1 hp (paired_rev p)⟩
end
section
variable {K : PySem.W.Frag} {γ : Type} [iγ : Py K γ] {env : Env K} {os : Os} {b : Bs} {g h : Hp} {σ : L2.St} {D : Ends} {i : Nat}
theorem S0.gone (s : S0 b g h σ env os) (i : Nat) : S0 b g h (σ.set i none) (env.set i .unk) os :=
  { s with
    len := by rw [List.length_set, List.length_set]; exact s.len
    sl := fun j t e => by
      by_cases hj : i = j
      · subst hj
        have hl : i < env.length := by
          have := (List.getElem?_eq_some_iff.mp e).1
          rwa [List.length_set] at this
        rw [List.getElem?_set_self hl] at e
        cases e
        trivial
      · rw [List.getElem?_set_ne hj] at e ⊢
        exact s.sl j t e }
/-- try: f(..) except C as n: .., both ways go on alike -/
theorem st_tryCut {A : List (Slot K) → (γ → Prop) → (Addr → List (Str × Slot K) → Prop) → Prop} {P : γ → Prop} {PE : Addr → List (Str × Slot K) → Prop} {xs : List (Slot K)} {ta : TA} {c : Value} {tsu : Addr → Value → Option Addr → TS} {Wout : WX} (J : Env K → Os → Prop)
    (s : S0 b g h σ env os) (e : EvA ta env os xs) (hA : A xs P PE) (hcls : ∀ C fs, PE C fs → PySem.W.exmOne K (.ref C) c = some true) (k : ∀ env' os' g' h' σ', J env' os' → S0 b g' h' σ' env' os' → D.nx σ' h') (k1 : ∀ z, P z → J env os)
    (kx : ∀ C fs (a d : Addr) g' h' (N : L2.St → Hp → Prop) (R : VK) (B1 B2 : L2.St → Hp → Prop), PE C fs → S0 b g' h' (σ.set i (some (.ref a))) (env.set i (sv (Xcp.mk (fs := fs) a d C))) os → (∀ env' os' g' h' σ', J (env'.set i .unk) os' → S0 b g' h' σ' env' os' → N σ' h') → tsu a (.ref C) (some d) { nx := N, rt := R, bk := B1, ct := B2 } (σ.set i (some (.ref a))) h') :
    tDrop (tCallS (SpE K A) (WE (wAs K c i tsu Wout D)) ta) D σ h :=
  st_tryE s e hA hcls (fun z hz g' h' s' => k _ _ _ _ _ (k1 z hz) s') fun C fs a d g' h' hC s' => kx C fs a d g' h' _ _ _ _ hC s' fun env' os' g2 h2 σ2 hJ s2 => k _ _ _ _ _ hJ (s2.gone i)
end
section
variable {K : PySem.W.Frag} {α : Type} [iα : Py K α] {env : Env K} {os : Os} {b : Bs} {g h : Hp} {σ : L2.St} {D : Ends} {i j m : Nat} {te : TE} {l : Addr}
/-- y = x.pop(e) -/
theorem st_setPopW {xs : List α} {PI : Int → Prop} (d : α) (s : S0 b g h σ env os) (hx : env[i]? = some (.val V inferInstance (V.ref l))) (ho : os[m]? = some (l, Own.lst K xs)) (e : EvW te env os PI) (hi : ∀ n, PI n → 0 ≤ n ∧ n < xs.length ∧ n < 2 ^ 63)
    (k : ∀ n, PI n → ∀ v g' h', S0 b g' h' (σ.set j (some v)) (env.set j (sv (xs.getD n.toNat d))) (os.set m (l, Own.lst K (xs.eraseIdx n.toNat))) → D.nx (σ.set j (some v)) h') : tAsg (tBM K "list" rPopAt (tVar i) (tCons te tNil)) (gName j) D σ h := by
  unfold tAsg tBM
  refine ev_var hx s fun v g1 h1 l1 r1 => ?_
  cases r1
  have s1 := s.le l1
  obtain ⟨n1, o, e1, vs, rfl, p1⟩ := s1.own _ (List.mem_of_getElem? ho)
  refine ⟨.inl ⟨rfl, vs, SqL.of e1⟩, e.go s1 fun v n g2 h2 px s2 l2 r2 => ?_⟩
  obtain ⟨n2, o, e2, ws, rfl, p2⟩ := s2.own _ (List.mem_of_getElem? ho)
  cases r2
  have hn := hi n px
  have hl := p2.length
  have hw : n.toNat < ws.length := by omega
  obtain ⟨y, hy, ry⟩ := paired_getL p2 (List.getElem?_eq_getElem hw)
  have hd : xs.getD n.toNat d = y := by rw [List.getD_eq_getElem?_getD, hy]; rfl
  exact ⟨l, ws, n, n.toNat, ws[n.toNat], rfl, rfl, e2, by omega, hn.2.2, (by unfold seqIndex?; simp only [if_neg (show ¬ n < 0 by omega)]; split <;> first | rfl | (exfalso; simp at *; omega)), List.getElem?_eq_getElem _,
    k n px _ g2 _ ((s2.put (w' := Own.lst K (xs.eraseIdx n.toNat)) ho ⟨_, rfl, paired_erase p2 _⟩).set ⟨_, rfl, by rw [hd]; exact ry⟩)⟩
end
theorem ev_unS {K : PySem.W.Frag} {α : Type} [iα : Py K α] {env : Env K} {os : Os} {te : TE} {x : α} (h : Ev te env os (some x)) : Ev te env os x := fun {b g h' σ Q} s q => h s fun v g1 h1 l1 r1 => q v g1 h1 l1 r1.2
/-! ### displays with effects -/
section
variable {K : PySem.W.Frag} {α β : Type} [iα : Py K α] [iβ : Py K β] {env : Env K} {os : Os} {ta tb : TE} {tr : TA}
structure EvLW (ta : TA) (env : Env K) (os : Os) {α : Type} [i : Py K α] (P : List α → Prop) : Prop where
  run : ∀ {b : Bs} {g h : Hp} {σ : L2.St} {os2 : Os} {Q : List V → Hp → Prop}, S0 b g h σ env (os ++ os2) → (∀ vs xs g' h', P xs → S0 b g' h' σ env (os ++ os2) → Same g g' → Paired (i.R g') vs xs → Q vs h') → ta σ h Q
theorem elw_nil : EvLW tNil env os (fun xs : List α => xs = []) := .mk fun {b g h σ os2 Q} s q => q [] [] g h rfl s (Same.refl _) .nil
theorem elw_cons {P : α → Prop} {P' : List α → Prop} (h1 : EvW ta env os P) (h2 : EvLW tr env os P') : EvLW (tCons ta tr) env os (fun zs : List α => ∃ x ys, P x ∧ P' ys ∧ zs = x :: ys) := .mk fun {b g h σ os2 Q} s q =>
  h1.run s fun v x g1 h1' p1 s1 e1 r1 => h2.run s1 fun vs ys g2 h2' p2 s2 e2 r2 => q (v :: vs) (x :: ys) g2 h2' ⟨x, ys, p1, p2, rfl⟩ s2 (e1.trans e2) (.cons (iα.mono e2 r1) r2)
theorem EvLW.imp {P P' : List α → Prop} (e : EvLW tr env os P) (hp : ∀ x, P x → P' x) : EvLW tr env os P' := .mk fun {b g h σ os2 Q} s q => e.run s fun v x g' h' p => q v x g' h' (hp x p)
theorem EvL.w {xs : List α} (e : EvL tr env os xs) : EvLW tr env os (fun ys => ys = xs) := .mk fun {b g h σ os2 Q} s q => e s.drop fun vs g' h' l r => q vs xs g' h' rfl (s.le l) l.gg r
theorem ew_tupL {P : List α → Prop} (h : EvLW tr env os P) (hl : ∀ xs, P xs → xs.length ≤ 100000) : EvW (tTup tr) env os (fun t : Tup α => P t.l) := .mk fun {b g h' σ os2 Q} s q =>
  h.run s fun vs xs g1 h1 p1 s1 e1 r1 => ⟨by rw [r1.length]; exact Nat.le_trans (hl xs p1) (by decide), fun p hp => by
    have le := Le.laid s1.gh hp (o := .tup vs)
    exact q _ ⟨xs⟩ (upd g1 p (.tup vs)) _ p1 (s1.le le) (e1.trans le.gg) ⟨p, vs, rfl, upd_same, pr_mono le.gg r1⟩⟩
theorem enw_lstL {P : List α → Prop} (h : EvLW tr env os P) (hl : ∀ xs, P xs → xs.length ≤ 100000) : EvNW (tLst tr) env os P := .mk fun {b g h' σ os2 Q} s q =>
  h.run s fun vs xs g1 h1 p1 s1 e1 r1 => ⟨by rw [r1.length]; exact Nat.le_trans (hl xs p1) (by decide), fun p hp => q p vs xs g1 h1 p1 s1 e1 hp r1⟩
/-- a kept list + a new one -/
theorem enw_catS {xs : SL α} {P : List α → Prop} (ha : Ev ta env os xs) (hb : EvNW tb env os P) (hl : ∀ ys, P ys → xs.l.length + ys.length ≤ 1000000) : EvNW (tOp rCat ta tb) env os (fun zs => ∃ ys, P ys ∧ zs = xs.l ++ ys) := .mk fun {b g h' σ os2 Q} s q =>
  ha s.drop fun v g1 h1 l1 r1 => hb.run (s.le l1) fun l2 ws ys g2 h2 p2 s2 e2 hn r2 => by
    obtain ⟨a, vs, rfl, h3, h4⟩ := r1
    have le := Le.laid s2.gh hn (o := .lst ws)
    have h5 := s2.gh _ _ (e2 _ _ h3)
    have hne : a ≠ l2 := ne_of_none h5 hn
    refine ⟨a, l2, vs, ws, rfl, rfl, by rw [upd_ne hne]; exact h5, upd_same, ?_, fun p hp => ?_⟩
    · have := hl ys p2
      exact Nat.le_trans (m := 1000000) (by rw [h4.length, r2.length]; exact this) (by decide)
    · exact q p (vs ++ ws) (xs.l ++ ys) _ _ ⟨ys, p2, rfl⟩ (s2.le le) (l1.gg.trans (e2.trans le.gg)) hp (paired_append (pr_mono (e2.trans le.gg) h4) (pr_mono le.gg r2))
end
end Lw
/-! Instances: owned while they are made, kept values afterwards; methods; makers. -/
namespace Lw
open PySem PySem.Spec PyProof.Rows L2
section
variable {K : PySem.W.Frag}
theorem fsr_none {g : Hp} {f : Str} : ∀ {ws : List (Str × V)} {fs : List (Str × Slot K)}, FsR g ws fs → fs.lookup f = none → ws.lookup f = none
  | _, _, .nil, _ => rfl
  | (an, av) :: ws, (cn, cs) :: fs, .cons r p, h => by
    obtain ⟨e, r⟩ := r
    have e : an = cn := e
    subst e
    rw [List.lookup_cons] at h ⊢
    cases q : (f == an) with
    | true => rw [q] at h; cases h
    | false => rw [q] at h; exact fsr_none p h
/-- a field stored -/
def putFs (f : Str) (t : Slot K) : List (Str × Slot K) → List (Str × Slot K)
  | [] => [(f, t)]
  | (n, x) :: r => if n = f then (n, t) :: r else (n, x) :: putFs f t r
theorem fsr_put {g : Hp} {f : Str} {v : V} {t : Slot K} (hv : t.ok g (some v)) : ∀ {ws : List (Str × V)} {fs : List (Str × Slot K)}, FsR g ws fs → FsR g (putF f v ws) (putFs f t fs)
  | _, _, .nil => .cons ⟨rfl, hv⟩ .nil
  | (an, av) :: ws, (cn, cs) :: fs, .cons r p => by
    obtain ⟨e, r⟩ := r
    have e : an = cn := e
    subst e
    show FsR g (if an = f then (an, v) :: ws else (an, av) :: putF f v ws) (if an = f then (an, t) :: fs else (an, cs) :: putFs f t fs)
    by_cases q : an = f
    · rw [if_pos q, if_pos q]; exact .cons ⟨rfl, hv⟩ p
    · rw [if_neg q, if_neg q]; exact .cons ⟨rfl, r⟩ (fsr_put hv p)
theorem fsr_len {g : Hp} : ∀ {ws : List (Str × V)} {fs : List (Str × Slot K)}, FsR g ws fs → ws.length = fs.length
  | _, _, .nil => rfl
  | _, _, .cons _ p => by rw [List.length_cons, List.length_cons, fsr_len p]
/-- an instance that is being made or changed -/
def Own.ins (K : PySem.W.Frag) (C dx : Addr) (fs : List (Str × Slot K)) : Own := ⟨fun g o => ∃ ws, o = .ins C dx ws ∧ FsR g ws fs, fun {g g' o} e ⟨ws, h1, h2⟩ => ⟨ws, h1, fsr_mono e h2⟩⟩
/-- kept instances as values -/
def insPy {α : Type} (C : Addr) (fs : α → List (Str × Slot K)) : Py K α := ⟨fun g v x => ∃ a dx ws, v = .ref a ∧ g a = some (.ins C dx ws) ∧ FsR g ws (fs x), fun {g g' v x} e ⟨a, dx, ws, h1, h2, h3⟩ => ⟨a, dx, ws, h1, e _ _ h2, fsr_mono e h3⟩⟩
/-- a value of x is an instance of the class at C with the fields fs -/
def InsOf (K : PySem.W.Frag) {α : Type} [i : Py K α] (C : Addr) (x : α) (fs : List (Str × Slot K)) : Prop := ∀ g v, i.R g v x → ∃ a dx ws, v = .ref a ∧ g a = some (.ins C dx ws) ∧ FsR g ws fs
variable {env : Env K} {os : Os} {ta tb te : TE} {t : TA} {α β γ : Type} [iα : Py K α] [iβ : Py K β] [iγ : Py K γ] {b : Bs} {g h : Hp} {σ : L2.St} {D : Ends} {i m : Nat} {l C dx : Addr} {fs : List (Str × Slot K)} {f : Str}
/-- x.f of a kept instance -/
theorem ev_fld {x : α} {y : β} (ha : Ev ta env os x) (hR : InsOf K C x fs) (c : Cls K C) (n : NoAttr K C f) (hl : fs.lookup f = some (sv y)) : Ev (tFld K ta f) env os y := fun {b g h σ Q} s q =>
  ha s fun v g1 h1 l1 r1 => by
    obtain ⟨a, dx, ws, rfl, h2, h3⟩ := hR _ _ r1
    obtain ⟨v, hv, w, e, r⟩ := fsr_at h3 hl
    cases e
    exact ⟨a, C, dx, ws, v, rfl, l1.gh _ _ h2, c, n, hv, q v g1 h1 l1 r⟩
/-- x.f of an owned instance -/
theorem ev_fldO {y : β} (hx : env[i]? = some (.val V inferInstance (V.ref l))) (ho : os[m]? = some (l, Own.ins K C dx fs)) (c : Cls K C) (n : NoAttr K C f) (hl : fs.lookup f = some (sv y)) : Ev (tFld K (tVar i) f) env os y := fun {b g h σ Q} s q =>
  ev_var hx s fun v g1 h1 l1 r1 => by
    cases r1
    obtain ⟨n1, o, e1, ws, rfl, p1⟩ := (s.le l1).own _ (List.mem_of_getElem? ho)
    obtain ⟨v, hv, w, e, r⟩ := fsr_at p1 hl
    cases e
    exact ⟨l, C, dx, ws, v, rfl, e1, c, n, hv, q v g1 h1 l1 r⟩
/-- x.f = e on an owned instance -/
theorem st_fldO {y : β} (s : S0 b g h σ env os) (e : Ev te env os y) (hx : env[i]? = some (.val V inferInstance (V.ref l))) (ho : os[m]? = some (l, Own.ins K C dx fs)) (c : Cls K C) (n : NoAttr K C f) (hz : fs.length < 1000)
    (k : ∀ g' h', S0 b g' h' σ env (os.set m (l, Own.ins K C dx (putFs f (sv y) fs))) → D.nx σ h') : sFld K (tVar i) te f D σ h :=
  e s fun v g1 h1 l1 r1 => ev_var hx (s.le l1) fun w g2 h2 l2 r2 => by
    cases r2
    have s2 := (s.le l1).le l2
    obtain ⟨n1, o, e1, ws, rfl, p1⟩ := s2.own _ (List.mem_of_getElem? ho)
    exact ⟨l, C, dx, ws, rfl, e1, c, n, by rw [fsr_len p1]; exact hz, k g2 _ (s2.put (w' := Own.ins K C dx (putFs f (sv y) fs)) ho ⟨_, rfl, fsr_put (t := sv y) ⟨v, rfl, iβ.mono l2.gg r1⟩ p1⟩)⟩
/-- x.m(..) of a kept instance, pure -/
theorem ev_meth {A : List (Slot K) → (γ → Prop) → Prop} {xs ds : List (Slot K)} {dvs : List V} {x : α} {z : γ} {E : XK} {mn : Str} (ha : Ev ta env os x) (hR : InsOf K C x fs) (hm : fs.lookup mn = none) (h : EvA t env os xs) (hA : A (sv x :: (xs ++ ds)) (fun y => y = z))
    (hd : ∀ g, Args g dvs ds := by exact fun _ => .nil) : Ev (tMeth C mn (SpR K A) dvs E ta t) env os z := fun {b g h' σ Q} s q =>
  ha s fun v g1 h1 l1 r1 => by
    obtain ⟨a, dx, ws, rfl, h2, h3⟩ := hR _ _ r1
    refine ⟨a, dx, ws, rfl, l1.gh _ _ h2, fsr_none h3 hm, h (s.le l1) fun vs g2 h4 l2 r2 => ?_⟩
    exact ⟨g2, _, _, hA, l2.gh, .cons ⟨_, rfl, iα.mono l2.gg r1⟩ (args_append r2 (hd g2)), fun v' z' g3 h5 hz l3 r3 => q v' g3 h5 ((l1.trans l2).trans l3) (hz ▸ r3)⟩
/-- .. that may raise by its promise, and does not here -/
theorem ev_methE {A : List (Slot K) → (γ → Prop) → (Addr → List (Str × Slot K) → Prop) → Prop} {xs : List (Slot K)} {x : α} {z : γ} {E : XK} {mn : Str} (ha : Ev ta env os x) (hR : InsOf K C x fs) (hm : fs.lookup mn = none) (h : EvA t env os xs) (hA : A (sv x :: xs) (fun y => y = z) fun _ _ => False) : Ev (tMeth C mn (SpE K A) [] E ta t) env os z := fun {b g h' σ Q} s q =>
  ha s fun v g1 h1 l1 r1 => by
    obtain ⟨a, dx, ws, rfl, h2, h3⟩ := hR _ _ r1
    refine ⟨a, dx, ws, rfl, l1.gh _ _ h2, fsr_none h3 hm, h (s.le l1) fun vs g2 h4 l2 r2 => ?_⟩
    exact ⟨g2, _, _, _, hA, l2.gh, by rw [List.append_nil]; exact .cons ⟨_, rfl, iα.mono l2.gg r1⟩ r2, fun v' z' g3 h5 hz l3 r3 => q v' g3 h5 ((l1.trans l2).trans l3) (hz ▸ r3), fun C fs d ws g2 h2 he => he.elim⟩
/-! ### a def that changes its objects, answers or raises (what it raises leaves its objects as told) -/
def SpX (K : PySem.W.Frag) {γ : Type} [iγ : Py K γ] (A : List (Slot K) → Os → (γ → Os → Prop) → (Addr → List (Str × Slot K) → Prop) → Prop) : Sp := fun vs H Q E =>
  ∃ (g : Hp) (xs : List (Slot K)) (os : Os) (P : γ → Os → Prop) (PE : Addr → List (Str × Slot K) → Prop), A xs os P PE ∧ Same g H ∧ Ow g H os ∧ Args g vs xs ∧
    (∀ v z os' g' H', P z os' → (∀ p ∈ os', p.1 ∈ os.map (·.1) ∨ H p.1 = none) → LeW (os.map (·.1)) g H g' H' → Ow g' H' os' → iγ.R g' v z → Q v H') ∧
    ∀ C fs d ws g' H', PE C fs → LeW (os.map (·.1)) g H g' H' → H' d = none → FsR g' ws fs → E (.ref C) (some d) (upd H' d (.xd ws))
end
section
variable {P : Program} {w : World} {K : PySem.W.Frag} {mg : Str → Option Value} {base : Heap} {γ : Type} [iγ : Py K γ]
theorem okXD {x qual : Str} {st : Stmt} {f : Addr} {fd : FuncData} {N ps : List Str} {k : Nat} {A : List (Slot K) → Os → (γ → Os → Prop) → (Addr → List (Str × Slot K) → Prop) → Prop} {dvs : List V} {kws : List (Str × V)} (F : FunD K x qual (defArgs st) (defBody st) (defScope st) dvs kws f fd) (S : FnScope N ps (defScope st)) (hlen : ∀ xs os P' PE, A xs os P' PE → xs.length = ps.length)
    (hb : ∀ (cdv : Value) (Ar : Around) (outer : List PySem.Env) (s : Shared) (H : Hp) (E : XK), Room k (Ar.deeper (envOfC qual (defScope st) s.heap.objs.size f cdv)) → ∀ (xs : List (Slot K)) (os : Os) (P' : γ → Os → Prop) (PE : Addr → List (Str × Slot K) → Prop), A xs os P' PE →
      ∃ t, PSs (cxOf (L2N.CX P w) P w K mg base N qual (defScope st) f cdv Ar outer s H E) (defBody st) t ∧
        ∀ (g : Hp) (σ : L2.St) (Q : VK), S0 ⟨os.map (·.1), g, H⟩ g H σ (xs ++ List.replicate (N.length - xs.length) .unk) os →
          (∀ v z g' h' σ' env' os' os2, P' z os' → (∀ p ∈ os', p ∈ os2) → S0 ⟨os.map (·.1), g, H⟩ g' h' σ' (env' : Env K) os2 → (os'.map (·.1)).Nodup → iγ.R g' v z → Q v h') →
          (∀ C fs d ws g' h' σ' env' os2, PE C fs → S0 ⟨os.map (·.1), g, H⟩ g' h' σ' (env' : Env K) os2 → h' d = none → FsR g' ws fs → E (.ref C) (some d) (upd h' d (.xd ws))) → t { nx := fun _ H' => Q .non H', rt := Q } σ H) : FnOk P w K mg base (L2N.CX P w) (k + 1) f fd ps (SpX K A) := by
  refine F.ok S (fun vs H Q E h => ?_) (fun cdv Ar outer s H vs Q E hr h => ?_)
  · obtain ⟨g, xs, os, P', PE, hA, _, _, r, _⟩ := h
    rw [args_len r]
    exact hlen xs os P' PE hA
  · obtain ⟨g, xs, os, P', PE, hA, gh, o, r, q, qe⟩ := h
    obtain ⟨t, ht, hq⟩ := hb cdv Ar outer s H E hr xs os P' PE hA
    refine ⟨t, ht, hq g _ Q (S0.startW gh r o) (fun v z g' h' σ' env' os' os2 hz hs s' nd rz => q v z os' g' h' hz (fun p hp => ?_) ⟨s'.gg, s'.fr, s'.gh, s'.th, s'.new⟩ (s'.ow.sub hs nd) rz) fun C fs d ws g' h' σ' env' os2 he s' hd hf => qe C fs d ws g' h' he ⟨s'.gg, s'.fr, s'.gh, s'.th, s'.new⟩ hd hf⟩
    rcases s'.ol p (hs p hp) with w | w
    · exact .inr w
    · exact .inl w
end
/-! ### C(..) -/
section
variable {K : PySem.W.Frag} {env : Env K} {os : Os} {t : TA} {α : Type} {b : Bs} {g h : Hp} {σ : L2.St} {C : Addr}
theorem make_core {iα : Py K α} {A : List (Slot K) → Os → (Unit → Os → Prop) → (Addr → List (Str × Slot K) → Prop) → Prop} {xs ds : List (Slot K)} {vs dvs : List V} {E : XK} {Q : VK} {fs : α → List (Str × Slot K)} {PZ : α → Prop} {PE : Addr → List (Str × Slot K) → Prop} {g1 h1 : Hp}
    (hR : ∀ g v x, (∃ a dx ws, v = .ref a ∧ g a = some (.ins C dx ws) ∧ FsR g ws (fs x)) → iα.R g v x) (s1 : S0 b g1 h1 σ env os) (r1 : Args g1 vs xs) (hA : ∀ x dx, A (sv (V.ref x) :: (xs ++ ds)) [(x, Own.ins K C dx [])] (fun _ os' => ∃ z, PZ z ∧ os' = [(x, Own.ins K C dx (fs z))]) PE)
    (k : ∀ v z g' h', PZ z → S0 b g' h' σ env os → Same g1 g' → iα.R g' v z → Q v h') (kx : ∀ C' fs' d ws g' h', PE C' fs' → S0 b g' h' σ env os → Same g1 g' → h' d = none → FsR g' ws fs' → E (.ref C') (some d) (upd h' d (.xd ws))) (hd : ∀ g, Args g dvs ds) (x dx : Addr) (hx : h1 x = none) (hdx : h1 dx = none) (hne : dx ≠ x) :
    SpX K A (.ref x :: (vs ++ dvs)) (upd (upd h1 dx (.own x)) x (.ins C dx [])) (fun v H2 => v = .non ∧ Q (.ref x) H2) E := by
  have le2 := Le.laid s1.gh hdx (o := .own x)
  have s2 := s1.le le2
  have hx2 : upd h1 dx (.own x) x = none := by rw [upd_ne (Ne.symm hne)]; exact hx
  have gx2 : upd g1 dx (.own x) x = none := le2.gh.free hx2
  have gh3 : Same (upd g1 dx (.own x)) (upd (upd h1 dx (.own x)) x (.ins C dx [])) := fun a o q => by rw [upd_ne (ne_of_none q gx2)]; exact le2.gh _ _ q
  have old : ∀ a, a ≠ x → upd h1 dx (.own x) a ≠ none → upd (upd h1 dx (.own x)) x (.ins C dx []) a ≠ none := fun a ha n => by rw [upd_ne ha]; exact n
  refine ⟨upd g1 dx (.own x), _, [(x, Own.ins K C dx [])], _, PE, hA x dx, gh3, ⟨fun p hp => ?_, by simp⟩, .cons ⟨_, rfl, rfl⟩ (args_append (args_mono le2.gg r1) (hd _)), fun v z os' g' H' hz hf lw ow r => ?_, fun C' fs' d ws g' H' he lw hd' hf => ?_⟩
  · rw [List.mem_singleton] at hp
    subst hp
    exact ⟨gx2, _, upd_same, [], rfl, .nil⟩
  · obtain ⟨z, pz, rfl⟩ := hz
    obtain ⟨nx, o, eo, ws, rfl, p⟩ := ow.own _ List.mem_cons_self
    have nx : g' x = none := nx
    have lg : Same g' (upd g' x (.ins C dx ws)) := fun a o q => by rw [upd_ne (ne_of_none q nx)]; exact q
    have Lf : Le (upd g1 dx (.own x)) (upd h1 dx (.own x)) (upd g' x (.ins C dx ws)) H' := by
      refine ⟨lw.gg.trans lg, fun a o q => ?_, fun a o q => ?_, fun a n m => ?_⟩
      · have ha : a ≠ x := ne_of_none q hx2
        exact lw.hh a o (by simpa using ha) (by rw [upd_ne ha]; exact q)
      · by_cases ha : a = x
        · subst ha; rw [upd_same] at q; cases q; exact eo
        · rw [upd_ne ha] at q; exact lw.gh _ _ q
      · have ha : a ≠ x := fun z => m (by rw [z]; exact hx2)
        rw [upd_ne ha]
        exact lw.new a n (old a ha m)
    exact ⟨r, k _ z _ H' pz (s2.le Lf) (le2.gg.trans Lf.gg) (hR _ _ _ ⟨x, dx, ws, rfl, upd_same, fsr_mono lg p⟩)⟩
  · have Lf : Le (upd g1 dx (.own x)) (upd h1 dx (.own x)) g' H' := by
      refine ⟨lw.gg, fun a o q => ?_, lw.gh, fun a n m => ?_⟩
      · have ha : a ≠ x := ne_of_none q hx2
        exact lw.hh a o (by simpa using ha) (by rw [upd_ne ha]; exact q)
      · have ha : a ≠ x := fun z => m (by rw [z]; exact hx2)
        exact lw.new a n (old a ha m)
    exact kx C' fs' d ws g' H' he (s2.le Lf) (le2.gg.trans Lf.gg) hd' hf
theorem s_make {iα : Py K α} {A : List (Slot K) → Os → (Unit → Os → Prop) → (Addr → List (Str × Slot K) → Prop) → Prop} {xs ds : List (Slot K)} {dvs : List V} {E : XK} {Q : VK} {fs : α → List (Str × Slot K)} {PZ : α → Prop} {PE : Addr → List (Str × Slot K) → Prop}
    (hR : ∀ g v x, (∃ a dx ws, v = .ref a ∧ g a = some (.ins C dx ws) ∧ FsR g ws (fs x)) → iα.R g v x) (s : S0 b g h σ env os) (e : EvA t env os xs) (hA : ∀ x dx, A (sv (V.ref x) :: (xs ++ ds)) [(x, Own.ins K C dx [])] (fun _ os' => ∃ z, PZ z ∧ os' = [(x, Own.ins K C dx (fs z))]) PE)
    (k : ∀ v z g' h', PZ z → S0 b g' h' σ env os → Same g g' → iα.R g' v z → Q v h') (kx : ∀ C' fs' d ws g' h', PE C' fs' → S0 b g' h' σ env os → h' d = none → FsR g' ws fs' → E (.ref C') (some d) (upd h' d (.xd ws))) (hd : ∀ g, Args g dvs ds := by exact fun _ => .nil) : tMake C (SpX K A) dvs E t σ h Q :=
  e s fun vs g1 h1 l1 r1 x dx hx hdx hne => make_core hR (s.le l1) r1 hA (fun v z g' h' hz s' e' r => k v z g' h' hz s' (l1.gg.trans e') r) (fun C' fs' d ws g' h' he s' _ hd' hf => kx C' fs' d ws g' h' he s' hd' hf) hd x dx hx hdx hne
/-- C(..) that makes an instance of z -/
theorem ev_make {iα : Py K α} {A : List (Slot K) → Os → (Unit → Os → Prop) → (Addr → List (Str × Slot K) → Prop) → Prop} {xs ds : List (Slot K)} {dvs : List V} {E : XK} {fs : α → List (Str × Slot K)} {z : α}
    (hR : ∀ g v x, (∃ a dx ws, v = .ref a ∧ g a = some (.ins C dx ws) ∧ FsR g ws (fs x)) → iα.R g v x) (e : EvA t env os xs) (hA : ∀ x dx, A (sv (V.ref x) :: (xs ++ ds)) [(x, Own.ins K C dx [])] (fun _ os' => ∃ y, y = z ∧ os' = [(x, Own.ins K C dx (fs y))]) fun _ _ => False)
    (hd : ∀ g, Args g dvs ds := by exact fun _ => .nil) : @Ev K (tMake C (SpX K A) dvs E t) env os α iα z := fun {b g h σ Q} s q =>
  e s fun vs g1 h1 l1 r1 x dx hx hdx hne => by
    have s1 := s.le l1
    have s3 : S0 ⟨[], g1, h1⟩ g1 h1 σ env [] := { gh := s1.gh, len := s1.len, sl := s1.sl, own := (fun _ z => nomatch z), nd := by simp, gg := Same.refl _, fr := fun _ _ _ q => q, th := fun _ n => n, new := fun _ n _ => n, ol := (fun _ z => nomatch z) }
    refine make_core hR s3 r1 hA (fun v y g' h' hy s' _ r => ?_) (fun _ _ _ _ _ _ he => he.elim) hd x dx hx hdx hne
    subst hy
    exact q v g' h' (l1.trans ⟨s'.gg, fun a o e => s'.fr a o (fun z => nomatch z) e, s'.gh, s'.new⟩) r
end
end Lw
/-! Sets of ints: set(list), set & set. -/
namespace Lw
open PySem PySem.Spec PyProof.Rows L2
section
variable {P : Program} {w : World} {A : Around} {E : Value → Shared → Prop} {s : Shared} {a b r : Addr} {S T U : Int → Bool} {n m k : Nat}
theorem quiet_ints {Q : Bool → Shared → Prop} (l : List Addr) (hl : ∀ b ∈ l, ∃ S n, SetR w s.heap b S n) (q : Q true s) : wpAny (model P w) A (setsQuiet l) Q E s := by
  unfold setsQuiet
  refine wpAny_bind (wpAny_forIn_list _ (fun rest x s' => x.1 = none ∧ s' = s ∧ ∀ b ∈ rest, ∃ S n, SetR w s.heap b S n) _ ?_ ?_ _ _ ⟨rfl, rfl, hl⟩)
  · rintro b rest ⟨x, u⟩ s' ⟨hx, rfl, hr⟩
    dsimp only at hx
    subst hx
    obtain ⟨S, n, o, es, ep, t, ho, hex, hd, g, nd, hm, hb, hf, hn, hs, hz⟩ := hr b List.mem_cons_self
    refine wpAny_bind (wpAny_setEntries_of ho hd hf ?_)
    refine wpAny_bind (MeetsSeq2.wpAny_forIn_array _ (fun rest2 y s2 => y.1 = none ∧ s2 = s' ∧ ∀ e ∈ rest2, GoodE e) _ ?_ ?_ _ _ ⟨rfl, rfl, g⟩)
    · rintro ⟨hh, v⟩ rest2 ⟨y, u2⟩ s2 ⟨hy, rfl, g2⟩
      dsimp only at hy
      subst hy
      obtain ⟨kk, tk, e1, _⟩ := g2 _ List.mem_cons_self
      dsimp only at e1
      subst e1
      refine wpAny_pure ⟨rfl, rfl, fun e he => g2 e (List.mem_cons_of_mem _ he)⟩
    · rintro ⟨y, u2⟩ s2 ⟨hy, rfl, _⟩
      dsimp only at hy
      subst hy
      exact wpAny_pure ⟨rfl, rfl, fun b hb => hr b (List.mem_cons_of_mem _ hb)⟩
  · rintro ⟨x, u⟩ s' ⟨hx, rfl, _⟩
    dsimp only at hx
    subst hx
    exact wpAny_pure q
theorem SetR.led {h : Heap} (R : SetR w h a S n) {o : Obj} {es : Array (Int × Value)} {ep : Nat} {t : SetTable} (ho : h.get? a = some o) (hd : o.data = .set es ep t) : w.params.followText "set-order" = true ∨ t.led = true := by
  obtain ⟨o2, es2, ep2, t2, ho2, hex, hd2, g, nd, hm, hb, hf, hn, hs, hz⟩ := R
  rw [ho] at ho2
  cases ho2
  rw [hd] at hd2
  cases hd2
  exact hz
theorem walk_unseen {Q : Array (Int × Value) → Shared → Prop} (R : SetR w s.heap a S n) (R2 : SetR w s.heap b T m) (Rr : SetR w s.heap r U k) (hr : r ≠ a)
    (h : ∀ (L : Array (Int × Value)) (h' : Heap), Heap.SameBut r s.heap h' → SetR w h' r U k → (∀ e ∈ L.toList, GoodE e) → (L.toList.map keyOf).Nodup → (∀ j, S j = true ↔ j ∈ L.toList.map keyOf) → L.size = n → Q L { s with heap := h' }) :
    wpAny (model P w) A (setWalkUnseen a [b, r] (some r)) Q E s := by
  have Ra := R
  obtain ⟨o, es, ep, t, ho, hex, hd, g, nd, hm, hb, hf, hn, hs, hz⟩ := R
  have base : Q es s := h es s.heap (Heap.SameBut.refl r s.heap) Rr g nd hm hn
  have hw : (w.params.followText "set-order" = true ∨ (!t.plain && decide (es.size > 1)) = false) → wpAny (model P w) A (setWalk a) Q E s := fun hc => by
    unfold setWalk
    refine wpAny_bind (wpAny_setState_of ho hd hf ?_)
    dsimp only
    refine wpAny_bind (wpAny_byText ?_)
    cases hbt : w.params.followText "set-order" with
    | true =>
      refine wp_if_pos rfl ?_
      refine wpAny_bind (wpAny_askSetting (wpAny_pure ?_))
      have p := pick_perm (w.params.setOrder a ep) es
      refine h _ s.heap (Heap.SameBut.refl r s.heap) Rr (fun e he => g e (p.mem_iff.mp he)) ((p.map keyOf).nodup_iff.mpr nd) (fun j => (hm j).trans (p.map keyOf).mem_iff.symm) ?_
      have := p.length_eq
      rw [Array.length_toList, Array.length_toList] at this
      exact this.trans hn
    | false =>
      have hdr : (!t.plain && decide (es.size > 1)) = false := by
        rcases hc with hc | hc
        · rw [hbt] at hc; cases hc
        · exact hc
      have hled : t.led = true := hz.resolve_left (by rw [hbt]; exact Bool.false_ne_true)
      refine wp_if_neg (by simp) ?_
      first | refine wpAny_bind (wpAny_pure ?_) | skip
      refine wp_if_neg (by show ¬ (!t.plain && decide (es.size > 1)) = true; rw [hdr]; exact Bool.false_ne_true) ?_
      first | refine wpAny_bind (wpAny_pure ?_) | skip
      refine wpAny_bind ?_
      refine wp_if_neg (by show ¬ (!t.led && decide (es.size > 1)) = true; rw [hled]; simp) ?_
      exact wpAny_pure (wpAny_pure base)
  unfold setWalkUnseen
  refine wpAny_bind (wpAny_setState_of ho hd hf ?_)
  dsimp only
  refine wpAny_bind (wpAny_byText ?_)
  cases hc : (w.params.followText "set-order" || (t.led && t.plain) || decide (es.size ≤ 1)) with
  | true =>
    refine wp_if_pos rfl ?_
    refine hw ?_
    rw [Bool.or_eq_true, Bool.or_eq_true] at hc
    rcases hc with (hc | hc) | hc
    · exact .inl hc
    · rw [Bool.and_eq_true] at hc
      exact .inr (by rw [hc.2]; rfl)
    · refine .inr ?_
      have := of_decide_eq_true hc
      rw [decide_eq_false (by omega), Bool.and_false]
  | false =>
    refine wp_if_neg (by exact Bool.false_ne_true) ?_
    rw [Bool.or_eq_false_iff, Bool.or_eq_false_iff] at hc
    obtain ⟨⟨hbt, hlp⟩, h1⟩ := hc
    have hled : t.led = true := hz.resolve_left (by rw [hbt]; exact Bool.false_ne_true)
    have hpl : t.plain = false := by rw [hled, Bool.true_and] at hlp; exact hlp
    refine wpAny_bind (quiet_ints [a, b, r] (fun x hx => ?_) ?_)
    · rcases List.mem_cons.mp hx with e | hx
      · exact ⟨_, _, e ▸ Ra⟩
      · rcases List.mem_cons.mp hx with e | hx
        · exact ⟨_, _, e ▸ R2⟩
        · rw [List.mem_singleton.mp hx]; exact ⟨_, _, Rr⟩
    refine wp_if_neg (by simp) ?_
    refine wpAny_bind (wpAny_rule ?_)
    have Rq := Rr
    obtain ⟨o2, es2, ep2, t2, ho2, hex2, hd2, g2, nd2, hm2, hb2, hf2, hn2, hs2, hz2⟩ := Rr
    have hled2 : t2.led = true := hz2.resolve_left (by rw [hbt]; exact Bool.false_ne_true)
    refine wpAny_bind (wpAny_setState_of ho2 hd2 hf2 ?_)
    dsimp only
    cases hc2 : ((t2.led && !t.led) || (t2.plain && !t.plain)) with
    | true =>
      refine wp_if_pos rfl ?_
      refine wpAny_bind (wpAny_storeSet_of ho2 hd2 ?_ (fits_of_scanBound hb2))
      refine wpAny_pure ?_
      refine h es _ (Heap.SameBut.update _ _ _) ⟨_, es2, _, _, store_at ho2 hd2, hex2, rfl, g2, nd2, hm2, hb2, hf2, hn2, hs2, .inr ?_⟩ g nd hm hn
      show (t2.led && t.led) = true
      rw [hled2, hled]; rfl
    | false =>
      refine wp_if_neg (by exact Bool.false_ne_true) ?_
      exact wpAny_pure base
theorem new_set {Q : Value → Shared → Prop} (h : Q (.ref s.heap.objs.size) { s with heap := s.heap.push { cls := .type "set", dict := none, data := .set #[] 0 (.fresh 0 0 (!w.params.followText "set-order")) } }) : wpAny (model P w) A (newSet (.type "set")) Q E s := by
  unfold newSet
  unfold setsByText
  refine wpAny_bind (wpAny_bind (wpAny_askSetting (wpAny_pure ?_)))
  dsimp only
  simp only [newObj]
  exact wpAny_bind (wpAny_alloc (wpAny_pure h))
theorem SetR.ty {h : Heap} (R : SetR w h a S n) : ∃ o, h.get? a = some o ∧ o.cls = .type "set" := by
  obtain ⟨o, es, ep, t, ho, hex, _⟩ := R
  exact ⟨o, ho, hex.1⟩
theorem any_set {Q : Bool → Shared → Prop} (R : SetR w s.heap a S n) (q : Q true s) : wpAny (model P w) A (Builtin.Frozenset.isAnySet (.ref a)) Q E s := by
  unfold Builtin.Frozenset.isAnySet
  refine wpAny_bind (wpAny_isInstance (b := true) (SetR.ty R) sub_set_self ?_)
  exact wpAny_pure q
theorem base_set {Q : Value → Shared → Prop} (R : SetR w s.heap a S n) (q : Q (.type "set") s) : wpAny (model P w) A (Builtin.Frozenset.baseOf a) Q E s := by
  unfold Builtin.Frozenset.baseOf
  refine wpAny_bind (wpAny_isInstance (b := true) (SetR.ty R) sub_set_self ?_)
  exact wpAny_pure q
theorem size_set {Q : Nat → Shared → Prop} (R : SetR w s.heap a S n) (q : Q n s) : wpAny (model P w) A (Builtin.Frozenset.sizeOf a) Q E s := by
  obtain ⟨o, es, ep, t, ho, hex, hd, g, nd, hm, hb, hf, hn, hs, hz⟩ := R
  unfold Builtin.Frozenset.sizeOf
  refine wpAny_bind (wpAny_setEntries_of ho hd hf ?_)
  rw [← hn] at q
  exact wpAny_pure q
theorem inter_at {id : String} {Q : Value → Shared → Prop} (R : SetR w s.heap a S n) (R2 : SetR w s.heap b T m) (hab : b ≠ a)
    (h : ∀ (h' : Heap) (c : Nat), SetR w h' s.heap.objs.size (fun j => S j && T j) c → c ≤ n + m → (∀ x o, s.heap.get? x = some o → h'.get? x = some o) → Q (.ref s.heap.objs.size) { s with heap := h' }) :
    wpAny (model P w) A (Builtin.Frozenset.intersection id a (.ref b)) Q E s := by
  unfold Builtin.Frozenset.intersection
  refine wp_if_neg (by simp [hab]) ?_
  refine wpAny_bind (base_set R ?_)
  refine wpAny_bind (new_set ?_)
  have kp : ∀ x o, s.heap.get? x = some o → (s.heap.push { cls := .type "set", dict := none, data := .set #[] 0 (.fresh 0 0 (!w.params.followText "set-order")) }).get? x = some o := fun x o e => Heap.get?_push_of_some _ e
  have R' := SetR.at R (kp a)
  have R2' := SetR.at R2 (kp b)
  have Rr := setR_fresh (h := s.heap) w
  have hra : s.heap.objs.size ≠ a := Nat.ne_of_gt (SetR.lt R)
  have hrb : s.heap.objs.size ≠ b := Nat.ne_of_gt (SetR.lt R2)
  refine wpAny_bind (wpAny_pure ?_)
  refine wpAny_bind (wpAny_holding ?_)
  refine wpAny_bind (any_set (s := { s with heap := s.heap.push { cls := .type "set", dict := none, data := .set #[] 0 (.fresh 0 0 (!w.params.followText "set-order")) } }) R2' ?_)
  refine wp_if_pos rfl ?_
  refine wpAny_bind (wpAny_pure ?_)
  refine wpAny_bind (size_set (s := { s with heap := s.heap.push { cls := .type "set", dict := none, data := .set #[] 0 (.fresh 0 0 (!w.params.followText "set-order")) } }) R2' ?_)
  refine wpAny_bind (size_set (s := { s with heap := s.heap.push { cls := .type "set", dict := none, data := .set #[] 0 (.fresh 0 0 (!w.params.followText "set-order")) } }) R' ?_)
  obtain ⟨x, y, Sx, Sy, nx, ny, hxy, Rx, Ry, hrx, hry, hS, hnn⟩ : ∃ (x y : Addr) (Sx Sy : Int → Bool) (nx ny : Nat), (if m > n then (b, a) else (a, b)) = (x, y) ∧
      SetR w (s.heap.push { cls := .type "set", dict := none, data := .set #[] 0 (.fresh 0 0 (!w.params.followText "set-order")) }) x Sx nx ∧
      SetR w (s.heap.push { cls := .type "set", dict := none, data := .set #[] 0 (.fresh 0 0 (!w.params.followText "set-order")) }) y Sy ny ∧ s.heap.objs.size ≠ x ∧ s.heap.objs.size ≠ y ∧ (∀ j, (S j && T j) = (Sy j && Sx j)) ∧ ny ≤ n + m := by
    by_cases hmn : m > n
    · exact ⟨b, a, T, S, m, n, if_pos hmn, R2', R', hrb, hra, fun j => rfl, by omega⟩
    · exact ⟨a, b, S, T, n, m, if_neg hmn, R', R2', hra, hrb, fun j => Bool.and_comm .., by omega⟩
  rw [hxy]
  dsimp only
  have Ry0 := Ry
  obtain ⟨oy, es, ep, t, ho, hex, hd, g, nd, hm, hb, hf, hn, hs, hz⟩ := Ry
  refine wpAny_bind (wpAny_setEpoch_of ho hd hf ?_)
  refine wpAny_bind (walk_unseen (s := { s with heap := s.heap.push { cls := .type "set", dict := none, data := .set #[] 0 (.fresh 0 0 (!w.params.followText "set-order")) } }) Ry0 Rx Rr hry fun L h1 sb1 Rr1 gL ndL hL hLn => ?_)
  have Lb : L.size < scanBound := by rw [hLn, ← hn]; exact hb
  refine wpAny_bind (MeetsSeq2.wpAny_forIn_array _ (fun rest _ s' => ∃ (done : List (Int × Value)) (c : Nat) (h' : Heap), L.toList = done ++ rest ∧ s' = { s with heap := h' } ∧ Heap.SameBut s.heap.objs.size h1 h' ∧
      SetR w h' s.heap.objs.size (fun j => decide (j ∈ done.map keyOf) && Sx j) c ∧ c ≤ done.length) _ ?_ ?_ _ _ ?_)
  · rintro ⟨hh, v⟩ rest u s' ⟨done, c, h', eL, rfl, sb, Rd, hc⟩
    obtain ⟨k, tk, e1, e2⟩ := gL (hh, v) (by rw [eL]; simp)
    dsimp only at e1 e2
    have e2 : hh = (intKind P w).hash k := e2
    subst e1; subst e2
    have kall : ∀ z o, z ≠ s.heap.objs.size → (s.heap.push { cls := .type "set", dict := none, data := .set #[] 0 (.fresh 0 0 (!w.params.followText "set-order")) }).get? z = some o → h'.get? z = some o := fun z o hz e => by
      rw [sb.2 z hz, sb1.2 z hz]; exact e
    have Rx2 : SetR w h' x Sx nx := SetR.at Rx fun o e => kall x o (Ne.symm hrx) e
    refine wpAny_bind (wpAny_holding ?_)
    refine wpAny_bind (wpAny_setFind_of (knd := intKind P w) (s := { s with heap := h' }) (intKind_is P w k tk) rfl (SetR.setOf Rx2) fun fnd hfnd => ?_)
    have hlen : done.length < L.size := by
      have : L.toList.length = (done ++ ((intKind P w).hash k, Value.int k tk) :: rest).length := by rw [eL]
      rw [Array.length_toList, List.length_append, List.length_cons] at this
      omega
    have fin : ∀ (h2 : Heap) (c2 : Nat), Heap.SameBut s.heap.objs.size h' h2 → SetR w h2 s.heap.objs.size (fun j => decide (j ∈ (done ++ [((intKind P w).hash k, Value.int k tk)]).map keyOf) && Sx j) c2 → c2 ≤ done.length + 1 →
        wpAny (model P w) A (Builtin.Frozenset.unchanged id y ep >>= fun _ => pure (ForInStep.yield PUnit.unit)) (fun r s' => match r with
          | .yield b' => ∃ (done : List (Int × Value)) (c : Nat) (h' : Heap), L.toList = done ++ rest ∧ s' = { s with heap := h' } ∧ Heap.SameBut s.heap.objs.size h1 h' ∧ SetR w h' s.heap.objs.size (fun j => decide (j ∈ done.map keyOf) && Sx j) c ∧ c ≤ done.length
          | .done b' => False) E { s with heap := h2 } := fun h2 c2 sb2 R3 hc2 => by
      unfold Builtin.Frozenset.unchanged
      refine wpAny_bind ?_
      have ho2 : h2.get? y = some oy := by rw [sb2.2 y (Ne.symm hry)]; exact kall y oy (Ne.symm hry) ho
      refine wpAny_bind (wpAny_setEpoch_of (s := { s with heap := h2 }) ho2 hd hf ?_)
      refine wp_if_neg (by simp) ?_
      refine wpAny_pure (wpAny_pure ?_)
      exact ⟨_, c2, h2, by rw [eL]; simp, rfl, ⟨sb2.1.trans sb.1, fun z hz => (sb2.2 z hz).trans (sb.2 z hz)⟩, R3, by rw [List.length_append]; exact hc2⟩
    have step : ∀ j, (decide (j ∈ (done ++ [((intKind P w).hash k, Value.int k tk)]).map keyOf) && Sx j) = ((decide (j ∈ done.map keyOf) && Sx j) || (decide (j = k) && Sx j)) := fun j => by
      rw [List.map_append, ← Bool.and_or_distrib_right]
      congr 1
      have e1 : keyOf ((intKind P w).hash k, Value.int k tk) = k := rfl
      rw [List.map_singleton, e1]
      by_cases h1 : j ∈ done.map keyOf <;> by_cases h2 : j = k <;> simp [h1, h2]
    cases hk : Sx k with
    | true =>
      refine wp_if_pos (by rw [hfnd, hk]) ?_
      refine wpAny_bind (setR_add_hashed (s := { s with heap := h' }) Rd (by omega) fun h2 sb2 R3 => ?_)
      refine wpAny_pure ?_
      refine wpAny_mono (fin h2 _ sb2 (SetR.congr R3 fun j => ?_) (by split <;> omega)) (fun r s' hr => ?_) fun _ _ z => z
      rotate_left
      · cases r with
        | done b' => exact hr.elim
        | yield b' => exact hr
      rw [step j]
      by_cases h2 : j = k
      · subst h2; rw [hk]; simp
      · simp [h2]
    | false =>
      refine wp_if_neg (by rw [hfnd, hk]; exact Bool.false_ne_true) ?_
      refine wpAny_pure ?_
      refine wpAny_mono (fin h' c (Heap.SameBut.refl _ _) (SetR.congr Rd fun j => ?_) (by omega)) (fun r s' hr => ?_) fun _ _ z => z
      rotate_left
      · cases r with
        | done b' => exact hr.elim
        | yield b' => exact hr
      rw [step j]
      by_cases h2 : j = k
      · subst h2; rw [hk]; simp
      · simp [h2]
  · rintro u s' ⟨done, c, h', eL, rfl, sb, Rd, hc⟩
    rw [List.append_nil] at eL
    refine wpAny_pure (wpAny_pure ?_)
    have hl : done.length = ny := by rw [← eL, Array.length_toList, hLn]
    refine h h' c (SetR.congr Rd fun j => ?_) (by omega) fun z o e => ?_
    · rw [hS j]
      congr 1
      rw [← eL, Bool.eq_iff_iff, hL j, decide_eq_true_eq]
    · have hz : z ≠ s.heap.objs.size := Nat.ne_of_lt (Heap.lt_size e)
      rw [sb.2 z hz, sb1.2 z hz]
      exact kp z o e
  · exact ⟨[], 0, h1, rfl, rfl, Heap.SameBut.refl _ _, SetR.congr Rr1 fun j => by simp, Nat.le_refl _⟩
theorem slot1_two {name : String} {a b : Value} {Q : (Value × Value) → Shared → Prop} (q : Q (a, b) s) : wpAny (model P w) A (Builtin.Frozenset.slot1 name ⟨[a, b], []⟩) Q E s := by
  unfold Builtin.Frozenset.slot1 slotArgs
  wp_walk
  exact q
theorem entry_set_and : entryFor table "set.__and__" = some Builtin.«frozenset.__and__» :=
  entryFor_alias (id' := "frozenset.__and__") (by kernel_rfl) rfl (by decide +kernel) (by kernel_rfl)
theorem and_sets {Q : Value → Shared → Prop} (R : SetR w s.heap a S n) (R2 : SetR w s.heap b T m) (hab : b ≠ a)
    (h : ∀ (h' : Heap) (c : Nat), SetR w h' s.heap.objs.size (fun j => S j && T j) c → c ≤ n + m → (∀ x o, s.heap.get? x = some o → h'.get? x = some o) → Q (.ref s.heap.objs.size) { s with heap := h' }) :
    wpAny (model P w) A (binaryOp .BitAnd (.ref a) (.ref b)) Q E s := by
  refine wpAny_binaryOp_same (SetR.ty R) (SetR.ty R2) F.fills_set_and F.slot_set_and (wpAny_call_entry F.slot_set_and (SetR.ty R) entry_set_and ?_ (F.args_set_and_2 _ _))
  show wpAny _ _ (Builtin.Frozenset.slot1 "__and__" ⟨[.ref a, .ref b], []⟩ >>= _) _ _ _
  refine wpAny_bind (slot1_two ?_)
  dsimp only
  simp only [Bool.false_eq_true, if_false]
  refine wpAny_bind (wpAny_bind (any_set R ?_))
  refine any_set R2 ?_
  refine wp_if_neg (by simp) ?_
  refine wpAny_bind (wpAny_pure ?_)
  refine wpAny_bind (inter_at R R2 hab fun h' c R3 hc k => ?_)
  exact wpAny_pure ⟨_, rfl, by simp, h h' c R3 hc k⟩
end
/-! ### set(x) -/
section
variable {P : Program} {w : World} {A : Around} {E : Value → Shared → Prop} {s : Shared}
abbrev emptySet (w : World) : Obj := { cls := .type "set", dict := none, data := .set #[] 0 (.fresh 0 0 (!w.params.followText "set-order")) }
/-- set(a list of ints) -/
theorem set_of_list {la : Addr} {its : Array Value} (ks : List Int) {Q : Value → Shared → Prop} (hnd : A.handled = none) (hli0 : s.heap.IsList la its) (hint : IntsAre its.toList ks) (room : ks.length + 1 < scanBound)
    (hq : ∀ (h2 : Heap) (tk2 c : Nat), SetR w h2 s.heap.objs.size (fun j => decide (j ∈ ks)) c → c ≤ ks.length → (∀ b o, s.heap.get? b = some o → h2.get? b = some o) → Q (.ref s.heap.objs.size) { s with heap := h2, toks := tk2 }) :
    wpAny (model P w) A (call (.type "set") [.ref la]) Q E s := by
  have hsz0 : its.size = ks.length := by
    have q := IntsAre.length hint
    rw [Array.length_toList] at q
    exact q
  obtain ⟨ca, tla, hmro⟩ := F.called_set.mro
  have hm1 := F.called_set.made
  have hm2 := F.called_set.sub
  refine wpAny_call (codeAny_of_tree ?_)
  show wpAny _ _ (callAny (.type "set") _) _ _ _
  refine wpAny_pure ⟨Code.quiet_builtin _ (by decide +kernel), codeAny_builtin F.entry_type_call ?_⟩
  rw [Around.under_plain (weight_type_call_type "set" [.ref la] []) rfl]
  have hm3 := F.called_set.notType
  have hm4 := F.called_set.canCreate
  have hm5 := F.typeCall_set_1 (.ref la)
  repeat (any_goals (first | assumption | wp_step))

  refine codeAny_mono (code_set_led1 (.ref la) (E := E) (Q₁ := fun ob s1 => ob = .ref s.heap.objs.size ∧ s1 = { s with heap := s.heap.push (emptySet w) }) ⟨rfl, rfl⟩) fun r1 s1 hr1 => ?_
  cases r1 with
  | error e => exact hr1
  | ok fl =>
    cases fl with
    | ret ob =>
      obtain ⟨rfl, rfl⟩ := hr1
      have gS : (s.heap.push (emptySet w)).get? s.heap.objs.size = some (emptySet w) := Heap.get?_push_size _ rfl
      have tS : Shared.TypeIs { s with heap := s.heap.push (emptySet w) } (.ref s.heap.objs.size) "set" := ⟨_, gS, rfl⟩
      have hi1 := F.called_set.init.lookup
      have hi2 := F.called_set.init.bind (.ref s.heap.objs.size)
      repeat (any_goals (first | assumption | wp_step))

      refine codeAny_mono (codeAny_call_builtin (R := wants (fun x s2 => x = .none ∧ ∃ h2 tk2 c, s2 = { s with heap := h2, toks := tk2 } ∧ SetR w h2 s.heap.objs.size (fun j => decide (j ∈ ks)) c ∧ c ≤ ks.length ∧
          (∀ b o, s.heap.get? b = some o → h2.get? b = some o)) E) F.called_set.init.plain F.entry_set_init (check_set_init_1 tS ?_)) fun x s2 hx => ?_
      · obtain ⟨ol, hol, hcl, nl, hdl⟩ := hli0
        obtain ⟨ocl, odi, oda, osl⟩ := ol
        simp only at hcl hdl
        subst hcl; subst hdl
        have hol2 : (s.heap.push (emptySet w)).get? la = some { cls := .type "list", dict := odi, data := .seq its nl, slots := osl } := Heap.get?_push_of_some _ hol
        have hq1 := F.sub_list_set
        have hq2 := F.sub_list_frozenset
        have hq3 : (Value.type "list" == Value.type "dict") = false := by decide
        have hli1 : (s.heap.push (emptySet w)).IsList la its := ⟨_, hol2, rfl, nl, rfl⟩
        unfold Builtin.«set.__init__» noKeywords Builtin.Frozenset.updateFrom
        generalize hgen : pyIter = PI
        wp_walk
        subst hgen

        refine wpAny_pyIter_list hli1 ?_
        refine wpAny_bind (wpAny_runValue ?_)
        have hla : la < s.heap.objs.size := Heap.lt_size hol
        have hnd3 : A.in1.in1.in1.handled = none := by simp [hnd]
        have hpz : (s.heap.push (emptySet w)).objs.size = s.heap.objs.size + 1 := Heap.size_push ..
        have hIne : la ≠ (s.heap.push (emptySet w)).objs.size := by
          rw [Heap.size_push]; exact Nat.ne_of_lt (Nat.lt_succ_of_lt hla)
        have hSnf : s.heap.objs.size ∉ [(s.heap.push (emptySet w)).objs.size, la] := by
          rw [Heap.size_push]
          simp only [List.mem_cons, List.not_mem_nil, or_false, not_or]
          exact ⟨Nat.ne_of_lt (Nat.lt_succ_self _), Nat.ne_of_gt hla⟩
        have hvals : ∀ (i : Nat) (v : Value), its[i]? = some v → ∃ k t, ks[i]? = some k ∧ v = .int k t := fun i v hv => by
          have hi : i < ks.length := by rw [← hsz0]; exact (Array.getElem?_eq_some_iff.mp hv).1
          obtain ⟨t, e⟩ := PyProof.Rows.IntsAre.int_at hint i v (by rw [Array.getElem?_toList]; exact hv)
          exact ⟨ks[i], t, List.getElem?_eq_getElem hi, by rw [e, List.getD_eq_getElem?_getD, List.getElem?_eq_getElem hi] <;> rfl⟩
        refine set_update_ints ((Walks.list hnd3 _ la hIne its).toS) s.heap.objs.size
          hSnf ks hsz0 room hvals (its.size - 0) 0 _ (by omega) (Nat.zero_le _)
          ⟨⟨_, Heap.get?_push_size _ rfl, rfl, rfl⟩, (hli1.push _)⟩ ?c1 ?c2
        case c1 =>
          exact ⟨0, Nat.le_refl 0, setR_new_at (Heap.get?_push_of_some _ gS)⟩
        case c2 =>
          intro s3 c3 hmv hc3 hS3
          obtain ⟨h3, g3, d3, tk3, os3⟩ := s3
          have eg : g3 = s.gens := hmv.gens
          have ed : d3 = s.drawn := hmv.drawn
          have eo : os3 = s.os := hmv.os
          subst eg; subst ed; subst eo
          show wpAny _ _ _ _ _ _
          refine wpAny_pure ?_
          show wpAny _ _ (ret Value.none) _ _ _
          rw [hsz0] at hc3
          refine wpAny_pure ⟨rfl, h3, tk3, c3, rfl, hS3, hc3, fun b o e => ?_⟩
          have b0 : b < s.heap.objs.size := Heap.lt_size e
          have b1 : b ≠ (s.heap.push (emptySet w)).objs.size := by
            rw [Heap.size_push]; exact Nat.ne_of_lt (Nat.lt_succ_of_lt b0)
          exact hmv.heap b o (by simp only [List.mem_cons, List.not_mem_nil, or_false, not_or]; exact ⟨Nat.ne_of_lt b0, b1⟩) (Heap.get?_push_of_some _ (Heap.get?_push_of_some _ e))
      · cases x with
        | error e => exact hx
        | ok fl2 =>
          cases fl2 with
          | ret y =>
            obtain ⟨rfl, h2, tk2, c2, rfl, hS2, hc2, hk2⟩ := hx
            repeat (any_goals (first | assumption | wp_step))
            exact hq h2 tk2 c2 hS2 hc2 hk2
          | _ => exact hx.elim
    | _ => exact hr1.elim
end
end Lw
/-! Typed rules over sets of ints, sorted lists of data, enumerate of a text. -/
namespace Lw
open PySem PySem.Spec PyProof.Rows L2
/-! ### readings -/
def rSetI (w : World) (K : PySem.W.Frag) : List V → Hp → VK → Prop := fun vs H Q => ∃ (a : Addr) (ns : List Int), vs = [V.ref a] ∧ (SqL K H a (ns.map V.int) ∨ SqT K H a (ns.map V.int)) ∧ ns.length ≤ 1000 ∧
  ∀ p c, H p = none → c ≤ ns.length → Q (.ref p) (upd H p (SetO w p (fun j => decide (j ∈ ns)) c))
def rSetAnd (w : World) : V → V → Hp → VK → Prop := fun x y H Q => ∃ a b S T n m, x = V.ref a ∧ y = V.ref b ∧ b ≠ a ∧ H a = some (SetO w a S n) ∧ H b = some (SetO w b T m) ∧
  ∀ p c, H p = none → c ≤ n + m → Q (.ref p) (upd H p (SetO w p (fun j => S j && T j) c))
section
variable {X : Cx}
theorem cr_setI (hc : X.calm = true) : CallR X (.type "set") (rSetI X.w X.K) := by
  intro pins s σ H vs us Q I r h
  obtain ⟨a, ns, rfl, hs, hl, q⟩ := h
  rw [Vals.ref1 r]
  have hz : ns.length + 1 < scanBound := by unfold scanBound; omega
  rcases hs with hs | hs
  · obtain ⟨its, rv, p, _⟩ := I.list hs
    exact set_of_list ns (I.ok.hd hc) p.isList (ints_of_vals rv) hz fun h2 tk2 c R hcn k =>
      ⟨.ref _, upd H s.heap.objs.size (SetO X.w s.heap.objs.size (fun j => decide (j ∈ ns)) c), I.laid (t' := tk2) k (Nat.le_refl _) (setO_new R), rfl, q _ _ (I.hok.fresh (Nat.le_refl _)) hcn⟩
  · obtain ⟨its, rv, p, _⟩ := I.tuple hs
    exact call_set_tupI ns (I.ok.hd hc) (show s.heap.IsTuple a its.toArray from p) (ints_of_vals rv) hz fun h2 tk2 c R hcn k =>
      ⟨.ref _, upd H s.heap.objs.size (SetO X.w s.heap.objs.size (fun j => decide (j ∈ ns)) c), I.laid (t' := tk2) k (Nat.le_refl _) (setO_new R), rfl, q _ _ (I.hok.fresh (Nat.le_refl _)) hcn⟩
theorem or_sand : OpR X (binaryOp .BitAnd) (rSetAnd X.w) := by
  intro pins s σ H x y v u Q I rx ry h
  obtain ⟨a, b, S, T, n, m, rfl, rfl, hab, ha, hb, q⟩ := h
  cases rx
  cases ry
  exact and_sets (setO_get I ha) (setO_get I hb) hab fun h' c R hcn k =>
    ⟨.ref _, upd H s.heap.objs.size (SetO X.w s.heap.objs.size (fun j => S j && T j) c), I.laid (t' := s.toks) k (Nat.le_refl _) (setO_new R), rfl, q _ _ (I.hok.fresh (Nat.le_refl _)) hcn⟩
end
/-! ### the same, typed -/
/-- a set of ints -/
structure ISet where
  w : World
  S : Int → Bool
  n : Nat
section
variable {K : PySem.W.Frag}
instance instISet : Py K ISet := ⟨fun g v x => ∃ a c, v = .ref a ∧ g a = some (SetO x.w a x.S c) ∧ c ≤ x.n, fun {g g' v x} e ⟨a, c, h1, h2, h3⟩ => ⟨a, c, h1, e _ _ h2, h3⟩⟩
/-- te makes a new set -/
def EvS (w : World) (te : TE) (env : Env K) (os : Os) (S : Int → Bool) (n : Nat) : Prop :=
  ∀ {b : Bs} {g h : Hp} {σ : L2.St} {Q : VK}, S0 b g h σ env os → (∀ a c g' h', Le g h g' h' → h' a = none → c ≤ n → Q (.ref a) (upd h' a (SetO w a S c))) → te σ h Q
variable {env : Env K} {os : Os} {ta tb te : TE} {w : World} {S T : Int → Bool} {n m : Nat}
theorem EvS.ev (h : EvS w te env os S n) : Ev te env os (ISet.mk w S n) := fun {b g h' σ Q} s q => h s fun a c g1 h1 l1 ha hc =>
  q _ (upd g1 a (SetO w a S c)) _ (l1.trans (Le.laid l1.gh ha)) ⟨a, c, rfl, upd_same, hc⟩
theorem ints_map {g : Hp} : ∀ {vs : List V} {xs : List Int}, Paired ((inferInstance : Py K Int).R g) vs xs → vs = xs.map V.int
  | _, _, .nil => rfl
  | _, _, .cons r t => by cases r; rw [ints_map t]; rfl
theorem es_setS {x : Sq Int} (ha : Ev ta env os x) (hl : x.l.length ≤ 1000) : EvS w (tCB (rSetI w K) (tCons ta tNil)) env os (fun j => decide (j ∈ x.l)) x.l.length := fun {b g h σ Q} s q =>
  ha s fun v g1 h1 l1 r1 => by
    obtain ⟨a, vs, rfl, h2, h3⟩ := r1
    have e := ints_map h3
    subst e
    refine ⟨a, x.l, rfl, ?_, hl, fun p c hp hcn => q p c g1 h1 l1 hp hcn⟩
    rcases h2 with ⟨_, h2⟩ | ⟨_, h2⟩
    · exact .inl (l1.gh.seq h2)
    · exact .inr (same_tup l1.gh h2)
theorem es_and (ha : EvS w ta env os S n) (hb : EvS w tb env os T m) : EvS w (tOp (rSetAnd w) ta tb) env os (fun j => S j && T j) (n + m) := fun {b g h σ Q} s q =>
  ha s fun a c g1 h1 l1 ha' hc => by
    have l1' := Le.laid (o := SetO w a S c) l1.gh ha'
    refine hb ((s.le l1).le l1') fun a2 c2 g2 h2 l2 hb' hc2 => ?_
    have e1 : h2 a = some (SetO w a S c) := l2.hh _ _ upd_same
    have hne : a2 ≠ a := fun z => by rw [z, e1] at hb'; cases hb'
    have l3 := Le.laid (o := SetO w a2 T c2) l2.gh hb'
    refine ⟨a, a2, S, T, c, c2, rfl, rfl, hne, l3.hh _ _ e1, upd_same, fun p c3 hp hc3 => ?_⟩
    exact q p c3 _ _ (((l1.trans l1').trans l2).trans l3) hp (by omega)
/-- two rising lists of the same ints are one -/
theorem rising_ext : ∀ {xs ys : List Int}, xs.Pairwise (· < ·) → ys.Pairwise (· < ·) → (∀ k, k ∈ xs ↔ k ∈ ys) → xs = ys
  | [], [], _, _, _ => rfl
  | [], y :: ys, _, _, h => absurd ((h y).mpr List.mem_cons_self) (by simp)
  | x :: xs, [], _, _, h => absurd ((h x).mp List.mem_cons_self) (by simp)
  | x :: xs, y :: ys, h1, h2, h => by
    obtain ⟨a1, a2⟩ := List.pairwise_cons.mp h1
    obtain ⟨b1, b2⟩ := List.pairwise_cons.mp h2
    have e : x = y := by
      rcases List.mem_cons.mp ((h x).mp List.mem_cons_self) with e | hx
      · exact e
      · rcases List.mem_cons.mp ((h y).mpr List.mem_cons_self) with e | hy
        · exact e.symm
        · have := a1 y hy
          have := b1 x hx
          omega
    subst e
    rw [rising_ext a2 b2 fun k => ?_]
    constructor
    · intro hk
      rcases List.mem_cons.mp ((h k).mp (List.mem_cons_of_mem _ hk)) with e | q
      · have := a1 k hk; omega
      · exact q
    · intro hk
      rcases List.mem_cons.mp ((h k).mpr (List.mem_cons_of_mem _ hk)) with e | q
      · have := b1 k hk; omega
      · exact q
/-- sorted(a set): zs, its members, rising -/
theorem en_sortSet {zs : List Int} (ha : Ev te env os (ISet.mk w S n)) (hn : n < 64) (hz : zs.Pairwise (· < ·)) (hm : ∀ k, k ∈ zs ↔ S k = true) : EvN (tCB (rSortedSet w) (tCons te tNil)) env os zs := fun {b g h σ Q} s q =>
  ha s fun v g1 h1 l1 r1 => by
    obtain ⟨a, c, rfl, h2, h3⟩ := r1
    refine ⟨a, S, c, rfl, l1.gh _ _ h2, Nat.lt_of_le_of_lt h3 hn, fun ns p hp hmem _ hf => ?_⟩
    have e : ns = zs := rising_ext hp hz fun k => (hmem k).trans (hm k).symm
    subst e
    exact q p _ g1 h1 l1 hf (paired_of_eq (f := V.int))
end
/-! ### sorted(a list of data) -/
def rSortD (K : PySem.W.Frag) : List V → Hp → VK → Prop := fun vs H Q => ∃ (a : Addr) (xs : List V) (ds : List PyData), vs = [V.ref a] ∧ SqL K H a xs ∧ DpAll K H xs ds ∧ PySem.W.AllAlike ds ∧ PySem.W.Sortable ds ∧ xs.length ≤ 1000000 ∧ (∀ d ∈ ds, d.depth ≤ 60) ∧
  ∀ p, H p = none → Q (.ref p) (upd H p (.lst (((xs.zip ds).mergeSort (PySem.W.dataLe false Prod.snd)).map Prod.fst)))
theorem dpAll_len {K : PySem.W.Frag} {H : Hp} : ∀ {xs : List V} {ds : List PyData}, DpAll K H xs ds → xs.length = ds.length
  | _, _, .nil => rfl
  | _, _, .cons _ t => by rw [List.length_cons, List.length_cons, dpAll_len t]
theorem each_vals : ∀ {xs : List V} {us : List Value} {ds : List PyData}, Vals xs us → xs.length = ds.length → PySem.W.EachIs (fun (u : Value) (p : V × PyData) => RelV p.1 u) us (xs.zip ds)
  | _, _, [], .nil, _ => .nil
  | _, _, d :: ds, .nil, h => by cases h
  | _, _, [], .cons r t, h => by cases h
  | _, _, d :: ds, .cons r t, h => .cons r (each_vals t (by simpa using h))
theorem vals_each : ∀ {us : List Value} {ps : List (V × PyData)}, PySem.W.EachIs (fun (u : Value) (p : V × PyData) => RelV p.1 u) us ps → Vals (ps.map Prod.fst) us
  | _, _, .nil => .nil
  | _, _, .cons r t => .cons r (vals_each t)
section
variable {X : Cx}
theorem each_reads {pins : List (Addr × Obj)} {σ : L2.St} {H : Hp} {s : Shared} (I : Inv X pins σ H s) : ∀ {xs : List V} {us : List Value} {ds : List PyData}, DpAll X.K H xs ds → Vals xs us → PySem.W.EachIs (fun (u : Value) (p : V × PyData) => ∃ as, Reads s.heap u p.2 as) us (xs.zip ds)
  | _, _, _, .nil, .nil => .nil
  | _, _, _, .cons d t, .cons r u => .cons (Dp.reads I _ _ _ d r) (each_reads I t u)
theorem cr_sortD (hu : X.A.units + 64 < cLine) : CallR X (.builtin "sorted") (rSortD X.K) := by
  intro pins s σ H vs us Q I r h
  obtain ⟨a, xs, ds, rfl, hs, hd, hal, hk, hl, hdep, q⟩ := h
  obtain ⟨its, rv, hl0, hz⟩ := I.list hs
  rw [Vals.ref1 r]
  have hxd := dpAll_len hd
  have hzl : (xs.zip ds).length = xs.length := by rw [List.length_zip, hxd, Nat.min_self]
  have hsn : (xs.zip ds).map Prod.snd = ds := List.map_snd_zip (by omega)
  have hb : (1000000 : Nat) ≤ sizeLine := by rw [sizeLine_eq]; omega
  refine PySem.W.sorted_data (enc := Prod.snd) (vs := its) hl0.isList (each_vals rv hxd) (each_reads I hd rv) (by rw [hsn]; exact hal) (by rw [hsn]; exact hk) (by rw [hzl]; omega) (fun p hp => ?_) fun out ho he => ?_
  · have := hdep p.2 (by rw [← hsn]; exact List.mem_map_of_mem hp)
    omega
  · have hv := vals_each he
    obtain ⟨ep, he'⟩ := PyProof.Rows.sortedAll_at s.heap its out.toArray
    have hlen : (((xs.zip ds).mergeSort (PySem.W.dataLe false Prod.snd)).map Prod.fst).length ≤ sizeLine := by
      rw [List.length_map, List.length_mergeSort, hzl]; omega
    exact ⟨.ref _, upd H (s.heap.objs.size + 1) (.lst _), I.laid (t' := s.toks) (fun _ _ => PyProof.Rows.sortedAll_old) (Nat.le_succ _) ⟨hlen, out, ep, hv, he'⟩, rfl, q _ (I.hok.fresh (Nat.le_succ _))⟩
end
section
variable {K : PySem.W.Frag} {env : Env K} {os : Os} {te : TE} {α : Type} [iα : Py K α] {n : Nat} [dα : PyD K α n]
theorem paired_zip {β γ : Type} {F : β → γ → Prop} : ∀ {vs : List β} {xs : List γ}, Paired F vs xs → ∀ p ∈ vs.zip xs, F p.1 p.2
  | _, _, .nil, p, hp => by simp at hp
  | _, _, .cons r t, p, hp => by
    rw [List.zip_cons_cons] at hp
    rcases List.mem_cons.mp hp with q | q
    · rw [q]; exact r
    · exact paired_zip t p q
theorem paired_sort {g : Hp} (F : V → α → Prop) (e : α → PyData) {vs : List V} {xs : List α} (h : Paired F vs xs) : Paired F (((vs.zip (xs.map e)).mergeSort (PySem.W.dataLe false Prod.snd)).map Prod.fst) (xs.mergeSort (PySem.W.dataLe false e)) := by
  have hl := h.length
  have e1 : vs.zip (xs.map e) = (vs.zip xs).map fun p => (p.1, e p.2) := by
    rw [List.zip_map_right]
    rfl
  have e2 : (vs.zip xs).map Prod.snd = xs := List.map_snd_zip (by omega)
  have m1 := PySem.W.sort_maps (r := PySem.W.dataLe false fun p : V × α => e p.2) (s := PySem.W.dataLe false Prod.snd) (fun p : V × α => (p.1, e p.2)) (l := vs.zip xs) fun _ _ _ _ => rfl
  have m2 := PySem.W.sort_maps (r := PySem.W.dataLe false fun p : V × α => e p.2) (s := PySem.W.dataLe false e) (Prod.snd : V × α → α) (l := vs.zip xs) fun _ _ _ _ => rfl
  rw [e1, ← m1, List.map_map]
  rw [e2] at m2
  rw [← m2]
  have all : ∀ p ∈ (vs.zip xs).mergeSort (PySem.W.dataLe false fun p : V × α => e p.2), F p.1 p.2 := fun p hp => paired_zip h p (List.mem_mergeSort.mp hp)
  generalize (vs.zip xs).mergeSort (PySem.W.dataLe false fun p : V × α => e p.2) = l at all
  induction l with
  | nil => exact .nil
  | cons p l ih => exact .cons (all p List.mem_cons_self) (ih fun q hq => all q (List.mem_cons_of_mem _ hq))
/-- sorted(a list of data) -/
theorem en_sortD {xs : List α} (ha : Ev te env os xs) (hal : PySem.W.AllAlike (xs.map dα.d)) (hk : PySem.W.Sortable (xs.map dα.d)) (hl : xs.length ≤ 1000000) (hn : n ≤ 60 := by decide) :
    EvN (tCB (rSortD K) (tCons te tNil)) env os (xs.mergeSort (PySem.W.dataLe false dα.d)) := fun {b g h σ Q} s q =>
  ha s fun v g1 h1 l1 r1 => by
    obtain ⟨a, vs, rfl, h2, h3⟩ := r1
    refine ⟨a, vs, xs.map dα.d, rfl, l1.gh.seq h2, dp_all l1.gh h3, hal, hk, by rw [h3.length]; exact hl, fun d hd => ?_, fun p hp => q p _ g1 h1 l1 hp (paired_sort (g := g1) _ _ h3)⟩
    obtain ⟨x, _, rfl⟩ := List.mem_map.mp hd
    exact Nat.le_trans (dα.deep x) hn
end
end Lw
/-! Iterables by what they give; for and comprehensions over them; dicts that stay; enumerate of a text. -/
namespace Lw
open PySem PySem.Spec PyProof.Rows L2
section
variable {K : PySem.W.Frag} {env : Env K} {os : Os} {ta tb te tx tl : TE} {t u tt : TT} {α β γ : Type} [iα : Py K α] [iβ : Py K β] [iγ : Py K γ]
variable {b : Bs} {g h : Hp} {σ : L2.St} {D : Ends} {i j : Nat} {ti : TI}
/-- J gives the items xs in any heap that keeps g0; it may lay new objects -/
structure Yld (J : It) (g0 : Hp) (xs : List α) : Prop where
  go : ∀ n H, n < xs.length → Same g0 H → J.go n H
  stop : ∀ H, Same g0 H → J.stop xs.length H
  yl : ∀ n g H x v H', Same g0 g → Same g H → xs[n]? = some x → J.yld n H v H' → ∃ g', Le g H g' H' ∧ iα.R g' v x
def EvI (ti : TI) (env : Env K) (os : Os) (xs : List α) : Prop :=
  ∀ {b : Bs} {g h : Hp} {σ : L2.St} {R : It → Hp → Prop}, S0 b g h σ env os → (∀ J g' h', Le g h g' h' → Yld (K := K) J g' xs → R J h') → ti σ h R
theorem Yld.walk {J : It} {g0 : Hp} {xs : List α} (y : Yld (K := K) J g0 xs) : Walk J xs.length (Same g0) fun n H v H' => J.yld n H v H' := ⟨fun n H hn e => y.go n H hn e, fun H e => y.stop H e, fun _ _ _ _ _ _ q => q⟩
theorem st_forI {tb : TS} {gt : TG} {ws : List Nat} {f : Env K → α → Env K} {xs : List α} (hg : TgtF (K := K) gt ws f) (s : S0 b g h σ env os) (e : EvI ti env os xs) (I : Nat → Env K → Os → Prop) (h0 : I 0 env os)
    (hs : ∀ n x, xs[n]? = some x → Turn1 b D tb I n (fun e => f e x)) (hd : ∀ env' os' g' h' σ', I xs.length env' os' → S0 b g' h' σ' env' os' → D.nx σ' h') : tFor ti gt tb D σ h := by
  refine e s fun J g1 h1 l1 y => ?_
  refine for_it y.walk (fun n σ' h' => ∃ g' env' os', Same g1 g' ∧ I n env' os' ∧ S0 b g' h' σ' env' os') ⟨g1, env, os, Same.refl _, h0, s.le l1⟩ (fun n σ' h' _ ⟨g', _, _, e1, _, s'⟩ => e1.trans s'.gh) ?_ ?_
  · rintro n v σ' h' h'' hn ⟨g', env', os', e1, hI, s'⟩ hy
    obtain ⟨g2, l2, r⟩ := y.yl n g' h' xs[n] v h'' e1 s'.gh (List.getElem?_eq_getElem hn) hy
    exact turn1_go hg (hs n _ (List.getElem?_eq_getElem hn)) hI (s'.le l2) r fun env2 os2 g3 h3 σ2 e2 hI2 s2 => ⟨g3, env2, os2, (e1.trans l2.gg).trans e2, hI2, s2⟩
  · rintro σ' h' ⟨g', env', os', e1, hI, s'⟩
    exact hd env' os' g' h' σ' hI s'
/-! ### comprehensions over any iterable, into any new object -/
structure OcI (K : PySem.W.Frag) (env : Env K) (os : Os) (b : Bs) (ga ha : Hp) (σ : L2.St) (vs : List Nat) (D : Addr) (w : Own) (H : Hp) : Prop where
  ex : ∃ g', S0 b g' H (L2.wipe σ vs) (wiped env vs) (os ++ [(D, w)]) ∧ Same ga g' ∧ (∀ a, ga a = none → ha a ≠ none → g' a = none)
  hh : ∀ a o, ha a = some o → H a = some o
  dn : ha D = none
theorem OcI.start {ga ha : Hp} {Dd : Addr} {w : Own} {o : HO} (s : S0 b ga ha σ env os) (hd : ha Dd = none) (vs : List Nat) (hw : w.P ga o) : OcI K env os b ga ha σ vs Dd w (upd ha Dd o) where
  ex := ⟨ga, s.wipe.add (w := w) hd hw, Same.refl _, fun _ n _ => n⟩
  hh := fun a o q => by rw [upd_ne (ne_of_none q hd)]; exact q
  dn := hd
theorem OcI.done {ga ha H : Hp} {vs : List Nat} {Dd : Addr} {w : Own} {Q : VK} (I : OcI K env os b ga ha σ vs Dd w H) (q : ∀ l o g' h', Le ga ha g' h' → h' l = none → w.P g' o → Q (.ref l) (upd h' l o)) : Q (.ref Dd) H := by
  obtain ⟨g', s, e1, e2⟩ := I.ex
  obtain ⟨nD, o, eD, p⟩ := s.own (Dd, w) (by simp)
  have hH : H = upd (fun a => if a = Dd then none else H a) Dd o := by
    funext a
    by_cases z : a = Dd
    · subst z; rw [upd_same]; exact eD
    · rw [upd_ne z]; exact (if_neg z).symm
  rw [hH]
  have off : ∀ a, a ≠ Dd → (if a = Dd then none else H a) = H a := fun a z => if_neg z
  refine q Dd o g' _ ⟨e1, fun a o z => ?_, fun a o z => ?_, e2⟩ (if_pos rfl) p
  · rw [off a (ne_of_none z I.dn)]; exact I.hh a o z
  · rw [off a (fun y => by rw [y] at z; exact absurd z (by rw [show g' Dd = none from nD]; exact fun k => nomatch k))]; exact s.gh a o z
theorem OcI.turn {ga ha H H' : Hp} {vs : List Nat} {Dd : Addr} {w : Own} {gt : TG} {f : Env K → α → Env K} {v : V} {x : α} {c : Bool} {J : It} {xs : List α} {n : Nat} {Nx : Hp → Prop} {R : L2.St → Hp → Prop} (I : OcI K env os b ga ha σ vs Dd w H) (y : Yld (K := K) J ga xs) (hx : xs[n]? = some x) (hy : J.yld n H v H')
    (hg : TgtF (K := K) gt vs f) (ht : EvT tt (f (wiped env vs) x) os c) (hN : c = false → ∀ H3, OcI K env os b ga ha σ vs Dd w H3 → Nx H3)
    (hR : c = true → ∀ σ2 g3 H3, S0 b g3 H3 σ2 (f (wiped env vs) x) os → (∀ g4 h4, Le g3 H3 g4 h4 → ∃ o, h4 Dd = some o ∧ w.P g4 o ∧ ∀ o' w', w'.P g4 o' → OcI K env os b ga ha σ vs Dd w' (upd h4 Dd o')) → R σ2 H3) :
    gt v (L2.wipe σ vs) H' fun σ2 H2 => L2.wipe σ2 vs = L2.wipe σ vs ∧ tt σ2 H2 fun b H3 => if b = true then R σ2 H3 else Nx H3 := by
  obtain ⟨g', s, e1, e2⟩ := I.ex
  obtain ⟨g2, le, r⟩ := y.yl n g' H x v H' e1 s.gh hx hy
  have s0 := s.le le
  have hh0 : ∀ a o, ha a = some o → H' a = some o := fun a o z => le.hh a o (I.hh a o z)
  have e20 : ∀ a, ga a = none → ha a ≠ none → g2 a = none := fun a n m => le.new a (e2 a n m) (sameNe I.hh m)
  refine hg s0.drop r fun σ2 w2 s2 => ⟨w2.trans wipe_wipe, ht s2 fun g3 h3 l3 => ?_⟩
  have hh3 : ∀ a o, ha a = some o → h3 a = some o := fun a o z => l3.hh a o (hh0 a o z)
  have new3 : ∀ a, ga a = none → ha a ≠ none → g3 a = none := fun a n m => l3.new a (e20 a n m) (sameNe hh0 m)
  cases c with
  | false => exact hN rfl h3 ⟨⟨g3, s0.le l3, (e1.trans le.gg).trans l3.gg, new3⟩, hh3, I.dn⟩
  | true =>
    refine hR rfl σ2 g3 h3 (s2.le l3) fun g4 h4 l4 => ?_
    have s4 := (s0.le l3).le l4
    obtain ⟨nD, o, eD, p⟩ := s4.own (Dd, w) (by simp)
    refine ⟨o, eD, p, fun o' w' pw => ⟨⟨g4, ?_, ((e1.trans le.gg).trans l3.gg).trans l4.gg, fun a n m => l4.new a (new3 a n m) (sameNe hh3 m)⟩, fun a o z => ?_, I.dn⟩⟩
    · have := s4.put (w' := w') (o := o') last_at pw
      rw [last_set] at this
      exact this
    · rw [upd_ne (ne_of_none z I.dn)]; exact l4.hh a o (hh3 a o z)
theorem take_lt {xs : List α} {n : Nat} (h : n < xs.length) (hl : xs.length ≤ 1000000) {p : α → Bool} {m : α → β} : (((xs.take n).filter p).map m).length < sizeLine := by
  refine Nat.lt_of_le_of_lt (Nat.le_trans (by rw [List.length_map]; exact List.length_filter_le _ _) (List.length_take_le _ _)) ?_
  exact Nat.lt_of_le_of_lt (by omega) (by decide : 1000000 < sizeLine)
/-- [e for target in an iterable if ..] -/
theorem en_lcI {xs : List α} {vs : List Nat} {gt : TG} {f : Env K → α → Env K} {p : α → Bool} {m : α → β} (hg : TgtF (K := K) gt vs f) (hx : EvI ti env os xs) (ht : ∀ x ∈ xs, EvT tt (f (wiped env vs) x) os (p x))
    (he : ∀ x ∈ xs, p x = true → Ev te (f (wiped env vs) x) os (m x)) (hl : xs.length ≤ 1000000) : EvN (tLc ti gt tt te vs) env os ((xs.filter p).map m) := fun {b g h σ Q} s q => by
  refine hx s fun J g1 h1 l1 y Dd hD => ?_
  refine lc_it y.walk (fun n H => OcI K env os b g1 h1 σ vs Dd (Own.lst K (((xs.take n).filter p).map m)) H) (OcI.start (s.le l1) hD vs ⟨[], rfl, .nil⟩) (fun n H _ I => ?_) (fun n v H H' hn I hy => ?_) (fun H I => ?_)
  · obtain ⟨g', s', e1, _⟩ := I.ex
    exact e1.trans s'.gh
  · have hxn := List.getElem?_eq_getElem hn
    have hm := List.mem_of_getElem? hxn
    refine I.turn y hxn hy hg (ht _ hm) (fun hc H3 I3 => by rw [filter_take hxn, hc]; exact I3) fun hc σ2 g3 H3 s3 k => he _ hm hc s3 fun z g4 h4 l4 r4 => ?_
    obtain ⟨o, eD, ⟨ws, rfl, pw⟩, fin⟩ := k g4 h4 l4
    refine ⟨ws, eD, by rw [pw.length]; exact take_lt hn hl, ?_⟩
    rw [filter_take hxn, hc]
    exact fin _ _ ⟨_, rfl, paired_append pw (.cons r4 .nil)⟩
  · rw [List.take_length] at I
    exact I.done fun l o g' h' le hn' ⟨ws, e, pr⟩ => by
      subst e
      exact q l ws g' h' (l1.trans le) hn' pr
end
end Lw
/-! enumerate of a text; what iterables give. -/
namespace Lw
open PySem PySem.Spec PyProof.Rows L2
/-- a text's signs, each in a new pair with its place -/
def ItSE (x : Str) : It :=
  ⟨fun i _ => i < x.cps.size, fun i H v H' => ∃ T c, v = .ref T ∧ H T = none ∧ H' = upd H T (.tup [.int (i : Nat), .str ⟨#[c]⟩]) ∧ x.cps[i]? = some c, fun i _ => i = x.cps.size⟩
theorem turn_enumS {P : Program} {w : World} {K : PySem.W.Frag} {elts : List Expr} {kk : Nat} {tpos : Pos} (e it : Addr) (x : Str) (t : Tok) (ty : String) (hty : ty = "str_ascii_iterator" ∨ ty = "str_iterator") :
    Turn P w K (.Tuple elts kk tpos) (ItSE x) [e, it] e (fun i h => (∃ old, IsEnum h e it ((i : Nat) : Int) old) ∧ h.IsStrIter it ty x t i ∧ e ≠ it) where
  mem := by simp
  obj := fun i h st b hb => by
    obtain ⟨⟨old, he⟩, ⟨o, ho, hc, hd⟩, _⟩ := st
    have z : b = e ∨ b = it := by simpa using hb
    rcases z with z | z
    · rw [z]; exact ⟨_, he, fun v q => nomatch q⟩
    · rw [z]; exact ⟨o, ho, fun v q => by rw [hd] at q; cases q⟩
  keep := fun i h h' st k => let ⟨⟨old, he⟩, ⟨o, ho, r⟩, hne⟩ := st; ⟨⟨old, k e (by simp) _ he⟩, ⟨o, k it (by simp) o ho, r⟩, hne⟩
  item := by
    intro X hP hw hK hc i pins s σ H E I hf st hg
    subst hP hw hK
    obtain ⟨⟨old, he⟩, hit, hne⟩ := st
    have hel : e < s.heap.objs.size := Heap.lt_size he
    have hil : it < s.heap.objs.size := by obtain ⟨_, q, _⟩ := hit; exact Heap.lt_size q
    have hh : X.A.in1.handled = none := by have := I.ok.hd hc; simpa using this
    have D : Draws X.prog X.w X.A.in1 it [it] x.cps.size (fun i v => ∃ c u, x.cps[i]? = some c ∧ v = .str ⟨#[c]⟩ u) (fun i h => h.IsStrIter it ty x t i) := by
      rcases hty with z | z
      · rw [z]; exact Draws.strAscii hh it x t
      · rw [z]; exact Draws.strWide hh it x t
    refine wpAny_pyNext_enum_itemD D he hit hg hne (by simpa using hne) fun u h1 tk1 hp ho hit1 hT hsz hk => ?_
    obtain ⟨c, uk, hcx, rfl⟩ := hp
    refine ⟨_, rfl, wpAny_letOwnedTupleGo_enum (s := { s with heap := h1, toks := tk1 + 1 }) ho fun h2 he2 sb => ?_⟩
    have hT2 : h2.get? s.heap.objs.size = some { cls := .type "tuple", data := .seq #[.int i tk1, .str ⟨#[c]⟩ uk] } := (sb.2 _ (Nat.ne_of_gt hel)).trans hT
    have new : ObjOk X.prog X.w (upd H s.heap.objs.size (.tup [.int (i : Nat), .str ⟨#[c]⟩])) h2 s.heap.objs.size (.tup [.int (i : Nat), .str ⟨#[c]⟩]) :=
      ⟨by show 2 ≤ sizeLine; decide, [.int i tk1, .str ⟨#[c]⟩ uk], .cons ⟨_, rfl⟩ (.cons ⟨_, rfl⟩ .nil), ⟨_, hT2, rfl, _, rfl⟩⟩
    have I1 : Inv X pins σ (upd H s.heap.objs.size (.tup [.int (i : Nat), .str ⟨#[c]⟩])) { s with heap := h2, toks := tk1 + 1 } :=
      I.turnedNew (ch := [e, it]) (fun b ob hb q => (sb.2 b (fun z => hb (by simp [z]))).trans (hk b ob (fun z => hb (by simp [z])) (fun z => hb (by simp [z])) q)) hf (Nat.le_refl _) new
    refine ⟨.ref s.heap.objs.size, _, I1, rfl, ⟨_, c, rfl, I.hok.fresh (Nat.le_refl _), rfl, hcx⟩, ⟨⟨Value.str ⟨#[c]⟩ uk, ?_⟩, ?_, hne⟩, fun b hb => ?_⟩
    · have z : ((i + 1 : Nat) : Int) = (i : Int) + 1 := by omega
      rw [z]; exact he2
    · obtain ⟨o, q1, q2⟩ := hit1
      exact ⟨o, (sb.2 it (Ne.symm hne)).trans q1, q2⟩
    · have hb' : b < s.heap.objs.size := by
        have z : b = e ∨ b = it := by simpa using hb
        rcases z with z | z
        · rw [z]; exact hel
        · rw [z]; exact hil
      rw [upd_ne (Nat.ne_of_lt hb')]
      exact (hf b hb).1
  done := by
    intro X hP hw hK hc i pins s σ H E I hf st hg
    subst hP hw hK
    obtain ⟨⟨old, he⟩, hit, hne⟩ := st
    obtain ⟨f0, f1, f2, f3, f4, f5⟩ := hf it (by simp)
    have hh : X.A.in1.handled = none := by have := I.ok.hd hc; simpa using this
    have hi : i = x.cps.size := hg
    subst hi
    have D : Draws X.prog X.w X.A.in1 it [it] x.cps.size (fun i v => ∃ c u, x.cps[i]? = some c ∧ v = .str ⟨#[c]⟩ u) (fun i h => h.IsStrIter it ty x t i) := by
      rcases hty with z | z
      · rw [z]; exact Draws.strAscii hh it x t
      · rw [z]; exact Draws.strWide hh it x t
    exact wpAny_pyNext_enum_endD D he hit fun h' eb => ⟨rfl, I.turned (t' := s.toks) (fun b o hb q => eb b o hb q) f0 f1 f3 f4 f5⟩
  self := fun A i s Q E st h => let ⟨⟨_, he⟩, _⟩ := st; wpAny_pyIter_enum he h
def iEnumS (ta : TA) : TI := fun σ H R => ta σ H fun vs H1 => ∃ x, vs = [.str x] ∧ R (ItSE x) H1
theorem pi_enumS {X : Cx} {e : Expr} {ta : TA} {p pos tpos : Pos} {elts : List Expr} {kk : Nat} (hg : Gl X "enumerate") (hm : X.mg "enumerate" = none) (ha : PA X [e] ta) (hs : starEach [e] X.env = [(false, eval e X.env)] := by rfl) :
    PI X (.Tuple elts kk tpos) (.Call (.Name "enumerate" p) [e] [] pos) (iEnumS ta) := by
  refine ⟨fun pins s σ H R I h => ?_⟩
  refine Call_ (ld_blt I hg hm boot_enumerate (PyProof.Rows.callWith_type1 (thn (ha.run pos pins s σ H _ I h) fun us s1 ⟨vs, H1, I1, r1, q1⟩ => ?_) hs rfl))
  obtain ⟨x, ex, q⟩ := q1
  subst ex
  cases r1 with
  | cons r rr =>
    cases rr
    obtain ⟨t, rfl⟩ := r
    refine call_enumerate_str fun h1 he hit hsz hk => wpAny_pyIter_enum he ?_
    have I2 : Inv X pins σ H1 { s1 with heap := h1 } := I1.kept (t' := s1.toks) hk
    have hty : strIterType x = "str_ascii_iterator" ∨ strIterType x = "str_iterator" := by unfold strIterType; split; exact .inl rfl; exact .inr rfl
    refine ⟨s1.heap.objs.size + 1, [s1.heap.objs.size + 1, s1.heap.objs.size], _, _, H1, rfl, I2, turn_enumS (s1.heap.objs.size + 1) s1.heap.objs.size x t _ hty, ⟨⟨Value.none, he⟩, hit, Nat.succ_ne_self _⟩, fun b hb => ?_, q⟩
    have z : b = s1.heap.objs.size + 1 ∨ b = s1.heap.objs.size := by simpa using hb
    have hle : s1.heap.objs.size ≤ b := by
      rcases z with z | z
      · rw [z]; exact Nat.le_add_right _ _
      · rw [z]; exact Nat.le_refl _
    exact I1.fpOk hle (I1.hok.fresh hle)
/-! ### what iterables give -/
def signs (x : Str) : List Str := x.cps.toList.map fun c => ⟨#[c]⟩
theorem signs_len {x : Str} : (signs x).length = x.cps.size := by unfold signs; simp
theorem signs_at {x : Str} {i c : Nat} (h : x.cps[i]? = some c) : (signs x)[i]? = some ⟨#[c]⟩ := by
  unfold signs
  rw [List.getElem?_map, Array.getElem?_toList, h]; rfl
def enumd (x : Str) : List (Int × Str) := (signs x).zipIdx.map fun p => ((p.2 : Nat), p.1)
theorem enumd_len {x : Str} : (enumd x).length = x.cps.size := by unfold enumd; simp [signs_len]
theorem enumd_at {x : Str} {i c : Nat} (h : x.cps[i]? = some c) : (enumd x)[i]? = some (((i : Nat) : Int), (⟨#[c]⟩ : Str)) := by
  unfold enumd
  rw [List.getElem?_map, List.getElem?_zipIdx, signs_at h]
  simp
section
variable {K : PySem.W.Frag} {env : Env K} {os : Os} {ta tb te tx tl : TE} {α β : Type} [iα : Py K α] [iβ : Py K β]
theorem ei_list {xs : List α} (ha : Ev ta env os xs) : EvI (iList K ta) env os xs := fun {b g h σ R} s q =>
  ha s fun v g1 h1 l1 r1 => by
    obtain ⟨a, us, rfl, hq, hp⟩ := r1
    have hl := hp.length
    refine ⟨a, rfl, ⟨us, l1.gh.seq hq⟩, q _ g1 h1 l1 ⟨fun n H hn e => ?_, fun H e => ⟨us, e.seq hq, by omega⟩, fun n g2 H x v H' e1 e2 hx hy => ?_⟩⟩
    · exact ⟨us, us[n]'(by omega), e.seq hq, List.getElem?_eq_getElem (by omega)⟩
    · obtain ⟨rfl, hy⟩ := hy
      have hu := hy us ((e1.trans e2).seq hq)
      obtain ⟨y, hy2, r⟩ := paired_getL hp hu
      rw [hx] at hy2
      cases hy2
      exact ⟨g2, Le.refl e2, iα.mono e1 r⟩
theorem ei_tup {xs : Tup α} (ha : Ev ta env os xs) : EvI (iTup K ta) env os xs.l := fun {b g h σ R} s q =>
  ha s fun v g1 h1 l1 r1 => by
    obtain ⟨a, us, rfl, hq, hp⟩ := r1
    have hl := hp.length
    refine ⟨a, rfl, ⟨us, same_tup l1.gh hq⟩, q _ g1 h1 l1 ⟨fun n H hn e => ?_, fun H e => ⟨us, same_tup e hq, by omega⟩, fun n g2 H x v H' e1 e2 hx hy => ?_⟩⟩
    · exact ⟨us, us[n]'(by omega), same_tup e hq, List.getElem?_eq_getElem (by omega)⟩
    · obtain ⟨rfl, hy⟩ := hy
      have hu := hy us (same_tup (e1.trans e2) hq)
      obtain ⟨y, hy2, r⟩ := paired_getL hp hu
      rw [hx] at hy2
      cases hy2
      exact ⟨g2, Le.refl e2, iα.mono e1 r⟩
theorem ei_str {x : Str} (ha : Ev ta env os x) : EvI (iStr ta) env os (signs x) := fun {b g h σ R} s q =>
  ha s fun v g1 h1 l1 r1 => by
    cases r1
    refine ⟨x, rfl, q _ g1 h1 l1 ⟨fun n H hn _ => by rw [signs_len] at hn; exact hn, fun H _ => by rw [signs_len]; exact Nat.le_refl _, fun n g2 H y v H' e1 e2 hx hy => ?_⟩⟩
    obtain ⟨rfl, c, hc, rfl⟩ := hy
    rw [signs_at hc] at hx
    cases hx
    exact ⟨g2, Le.refl e2, rfl⟩
theorem ei_enumS {x : Str} (ha : Ev ta env os x) : EvI (iEnumS (tCons ta tNil)) env os (enumd x) := fun {b g h σ R} s q =>
  ha s fun v g1 h1 l1 r1 => by
    cases r1
    refine ⟨x, rfl, q _ g1 h1 l1 ⟨fun n H hn _ => by rw [enumd_len] at hn; exact hn, fun H _ => by rw [enumd_len]; rfl, fun n g2 H y v H' e1 e2 hx hy => ?_⟩⟩
    obtain ⟨T, c, rfl, hT, rfl, hc⟩ := hy
    rw [enumd_at hc] at hx
    cases hx
    exact ⟨_, Le.laid e2 hT, T, _, _, rfl, upd_same, rfl, rfl⟩
end
end Lw
/-! Dicts that stay as they are. -/
namespace Lw
open PySem PySem.Spec PyProof.Rows L2
/-- the value is a dict just made; from now on it is only read -/
def tFrz (te : TE) : TE := fun σ H Q => te σ H fun v H1 => ∃ d kvs, v = .ref d ∧ H1 d = some (.dK kvs) ∧ ∀ od, Q v (upd H1 d (.frz od (.dK kvs)))
def rItemsF : V → Hp → VK → Prop := fun x H Q => ∃ (d : Addr) (od : Obj) (kvs : List (Key × V)), x = .ref d ∧ H d = some (.frz od (.dK kvs)) ∧
  ∀ (H' : Hp) (p : Addr) (ts : List Addr), (∀ b o, H b = some o → H' b = some o) → H p = none → (∀ t ∈ ts, H t = none) → p ∉ ts → H' p = some (.lst (ts.map V.ref)) → Paired (fun (t : Addr) (q : Key × V) => H' t = some (.tup [kV q.1, q.2])) ts kvs → Q (.ref p) H'
def tItemsF (te : TE) : TE := fun σ H Q => te σ H fun x H1 => rItemsF x H1 Q
section
variable {X : Cx} {e : Expr} {te : TE} {p apos cpos pos : Pos}
theorem pe_frz (h : PE X e te) : PE X e (tFrz te) := by
  refine ⟨fun pins s σ H Q I hw => ?_⟩
  refine thn (h.run pins s σ _ _ I hw) fun v s1 ⟨x, H1, I2, r, d, kvs, ex, hd, q⟩ => ?_
  subst ex
  obtain ⟨od, I3⟩ := I2.lock hd trivial
  exact ⟨.ref d, _, I3, r, q od⟩
theorem pe_listItemsF (hc : X.calm = true) (he : PE X e te) (hg : Gl X "list") (hm : X.mg "list" = none) (hv : bootBuiltins "list" = some (.type "list")) (hbase : attributeBase e "items" X.env (eval e X.env) = eval e X.env := by rfl) (hline : (apos.endLine == cpos.line) = true := by rfl)
    (hs : starEach [.Call (.Attribute e "items" apos) [] [] cpos] X.env = (false, eval (.Call (.Attribute e "items" apos) [] [] cpos) X.env) :: starEach [] X.env := by rfl) :
    PE X (.Call (.Name "list" p) [.Call (.Attribute e "items" apos) [] [] cpos] [] pos) (tItemsF te) := by
  refine ⟨fun pins s σ H Q I hq => ?_⟩
  refine wpAny_Call_Name_kw (ld_blt I hg hm hv ?_)
  refine PyProof.Rows.callWith_type1 ?_ hs rfl
  rw [hs]
  show wpAny _ _ (spliced ((false, eval (.Call (.Attribute e "items" apos) [] [] cpos) X.env) :: backTo pos (starEach [] X.env))) _ _ s
  refine Calls.spliced_cons ?_
  refine wpAny_Call_method (T := "dict") (id := "dict.items") hbase rfl hline F.plainAttrs_dict F.slot_dict_items F.type_dict_items (thn (he.run pins s σ H _ I hq) fun u s1 ⟨x, H1, I1, rx, d, od, us, ex, hd, q⟩ => ?_)
  subst ex
  obtain rfl : u = Value.ref d := rx
  obtain ⟨hs0, hgd, hx, es, ep, vs, hdt, hsz, kv, hat⟩ := I1.frzK hd
  obtain ⟨_, hz, _⟩ := (show ObjOk X.prog X.w H1 s1.heap d (.frz od (.dK us)) from I1.hok d _ hd)
  have hlk : us.length = vs.length := Paired.length kv
  have I2 : Inv X pins σ H1 { s1 with heap := s1.heap.push { cls := .type "dict_items", data := .fields #[.ref d] } } := I1.kept (t' := s1.toks) fun b ob q => Heap.get?_push_of_some _ q
  refine ⟨hat.dictOf.typeIs, hat.dictOf.mapOf.noDict, ?_⟩
  show wpAny _ _ (callWith cpos (.builtin "dict.items") [.ref d] [] []) _ X.xe s1
  refine method_meetsIn F.slot_dict_items F.entry_dict_items rfl (PySem.evalArgs_none ⟨rfl, hat.dictOf.typeIs, F.args_dict_items_1 _, _, meets_dict_items (mixKind X.prog X.w) d hs0, ⟨vs, hat.dictOf⟩, ?_⟩)
  refine Calls.spliced_nil ?_
  refine PySem.W.kdx_call (knd := mixKind X.prog X.w) (kvs := vs) (ep := ep) (I1.ok.hd hc) ⟨_, Heap.get?_push_size _ rfl, rfl, rfl⟩ (hat.push _) (by omega) fun h' tk acc c as hk hS hl hG hacc => ?_
  obtain ⟨H', k1, k2, k3, k4, k5, k6, J⟩ := LiI.items_laid (tk := tk) I2 hz kv hk hS hl hG hacc
  exact ⟨.ref _, H', J, rfl, q H' _ as k1 k2 k3 k4 k5 k6⟩
end
/-! ### as values -/
class PyK (K : PySem.W.Frag) (κ : Type) [i : Py K κ] where
  kk : κ → Key
  inj : ∀ {x y : κ}, kk x = kk y → x = y
  rv : ∀ {g : Hp} {v : V} {x : κ}, i.R g v x ↔ v = kV (kk x)
instance {K : PySem.W.Frag} : PyK K Int := ⟨.inl, fun h => Sum.inl.inj h, fun {g v x} => Iff.rfl⟩
instance {K : PySem.W.Frag} : PyK K Str := ⟨.inr, fun h => Sum.inr.inj h, fun {g v x} => Iff.rfl⟩
/-- a dict that stays: its keys with their values, in order -/
structure Dic (κ β : Type) where
  l : List (κ × β)
def Dic.get {κ β : Type} [DecidableEq κ] (d : Dic κ β) (k : κ) : Option β := (d.l.find? fun p => decide (p.1 = k)).map (·.2)
section
variable {K : PySem.W.Frag} {κ α β : Type} [iκ : Py K κ] [pk : PyK K κ] [DecidableEq κ] [iα : Py K α] [iβ : Py K β]
def KvR (K : PySem.W.Frag) {κ β : Type} [iκ : Py K κ] [pk : PyK K κ] [iβ : Py K β] (g : Hp) (p : Key × V) (q : κ × β) : Prop := p.1 = pk.kk q.1 ∧ iβ.R g p.2 q.2
instance instDic : Py K (Dic κ β) := ⟨fun g v x => ∃ a o us, v = .ref a ∧ g a = some (.frz o (.dK us)) ∧ Paired (KvR K g) us x.l, fun {g g' v x} e ⟨a, o, us, h1, h2, h3⟩ => ⟨a, o, us, h1, e _ _ h2, paired_mono (fun _ _ q => ⟨q.1, iβ.mono e q.2⟩) h3⟩⟩
/-- a dict that is being made -/
def Own.dk (K : PySem.W.Frag) {κ β : Type} [iκ : Py K κ] [pk : PyK K κ] [iβ : Py K β] (l : List (κ × β)) : Own := ⟨fun g o => ∃ us, o = .dK us ∧ Paired (KvR K g) us l, fun {g g' o} e ⟨us, h1, h2⟩ => ⟨us, h1, paired_mono (fun _ _ q => ⟨q.1, iβ.mono e q.2⟩) h2⟩⟩
theorem kv_get {g : Hp} {k : κ} : ∀ {us : List (Key × V)} {l : List (κ × β)}, Paired (KvR K g) us l → (match (l.find? fun p => decide (p.1 = k)).map (·.2) with
    | none => valV us (pk.kk k) = none
    | some y => ∃ v, valV us (pk.kk k) = some v ∧ iβ.R g v y)
  | _, _, .nil => rfl
  | p :: us, q :: l, .cons r t => by
    by_cases e : q.1 = k
    · rw [List.find?_cons, decide_eq_true e]
      exact ⟨p.2, valV_pos (by rw [r.1, e]), r.2⟩
    · rw [List.find?_cons, decide_eq_false e]
      have ne : ¬ p.1 = pk.kk k := fun z => e (pk.inj (r.1.symm.trans z))
      have ih := kv_get (k := k) t
      dsimp only
      rw [valV_neg ne]
      exact ih
theorem kv_put {g : Hp} {k : κ} {v : V} {y : β} (r : iβ.R g v y) {us : List (Key × V)} {l : List (κ × β)} (p : Paired (KvR K g) us l) (hk : k ∉ l.map Prod.fst) : Paired (KvR K g) (putK us (pk.kk k) v) (l ++ [(k, y)]) := by
  have no : (us.any fun kv => decide (kv.1 = pk.kk k)) = false := by
    rw [List.any_eq_false]
    intro q hq z
    obtain ⟨q', hq', e, _⟩ := paired_all p q hq
    exact hk (by rw [← pk.inj (e.symm.trans (of_decide_eq_true z))]; exact List.mem_map_of_mem hq')
  unfold putK
  rw [no, if_neg Bool.false_ne_true]
  exact paired_append p (.cons ⟨rfl, r⟩ .nil)
variable {env : Env K} {os : Os} {ta tb te tx tk tv : TE} {tt : TT} {ti : TI}
theorem ev_din {d : Dic κ β} {k : κ} (hy : Ev ta env os k) (hd : Ev tb env os d) : Ev (tDIn ta tb) env os (d.get k).isSome := fun {b g h σ Q} s q =>
  hy s fun v g1 h1 l1 r1 => hd (s.le l1) fun w g2 h2 l2 r2 => by
    obtain ⟨a, o, us, rfl, ho, p⟩ := r2
    have e := pk.rv.mp r1
    subst e
    have z := kv_get (k := k) p
    refine ⟨a, valV us (pk.kk k), rfl, .inl ⟨us, _, .inr ⟨o, l2.gh _ _ ho⟩, rfl, rfl⟩, q _ g2 h2 (l1.trans l2) ?_⟩
    show V.bl _ = V.bl _
    unfold Dic.get
    cases hf : (d.l.find? fun p => decide (p.1 = k)).map (·.2) with
    | none => rw [hf] at z; rw [z]; rfl
    | some y => rw [hf] at z; obtain ⟨v, z, _⟩ := z; rw [z]; rfl
theorem ev_dget {d : Dic κ β} {k : κ} {y : β} (hd : Ev tb env os d) (hy : Ev ta env os k) (e : d.get k = some y) : Ev (tDGet tb ta) env os y := fun {b g h σ Q} s q =>
  hd s fun w g1 h1 l1 r1 => hy (s.le l1) fun v g2 h2 l2 r2 => by
    obtain ⟨a, o, us, rfl, ho, p⟩ := r1
    have e2 := pk.rv.mp r2
    subst e2
    have z := kv_get (k := k) p
    unfold Dic.get at e
    rw [e] at z
    obtain ⟨v, z, r⟩ := z
    exact ⟨a, v, rfl, .inl ⟨us, _, .inr ⟨o, l2.gh _ _ (l2.gg _ _ ho)⟩, rfl, z.symm⟩, q _ g2 h2 (l1.trans l2) (iβ.mono l2.gg r)⟩
/-- d.items() -/
theorem ei_items {d : Dic κ β} (hd : Ev ta env os d) : EvI (iItems ta) env os d.l := fun {b g h σ R} s q =>
  hd s fun w g1 h1 l1 r1 => by
    obtain ⟨a, o, us, rfl, ho, p⟩ := r1
    have hl := p.length
    refine ⟨a, o, us, rfl, l1.gh _ _ ho, q _ g1 h1 l1 ⟨fun n H hn e => ⟨e _ _ ho, by omega⟩, fun H e => ⟨e _ _ ho, by omega⟩, fun n g2 H x v H' e1 e2 hx hy => ?_⟩⟩
    obtain ⟨T, k, v, hu, rfl, hT, rfl⟩ := hy
    obtain ⟨x', hx', r⟩ := paired_getL p hu
    rw [hx] at hx'
    cases hx'
    have l3 := Le.laid (o := .tup [kV k, v]) e2 hT
    exact ⟨_, l3, T, kV k, v, rfl, upd_same, pk.rv.mpr (congrArg kV r.1), iβ.mono (e1.trans l3.gg) r.2⟩
/-- list(d.items()) -/
theorem ev_itemsF {d : Dic κ β} (hd : Ev ta env os d) : Ev (tItemsF ta) env os d.l := fun {b g h σ Q} s q =>
  hd s fun w g1 h1 l1 r1 => by
    obtain ⟨a, o, us, rfl, ho, p⟩ := r1
    refine ⟨a, o, us, rfl, l1.gh _ _ ho, fun H' l ts kp hl hts hlt hH hp => ?_⟩
    have f1 : ∀ b, g1 b = none ∨ h1 b ≠ none := fun b => by
      cases z : h1 b with
      | none => exact .inl (l1.gh.free z)
      | some o => exact .inr (by simp)
    -- the kept heap: what was kept, the list and its tuples
    let g' : Hp := fun x => if x = l ∨ x ∈ ts then H' x else g1 x
    have new : ∀ x, (x = l ∨ x ∈ ts) → h1 x = none := fun x hx => by
      rcases hx with rfl | hx
      · exact hl
      · exact hts x hx
    have gg : Same g1 g' := fun x o e => by
      have : ¬ (x = l ∨ x ∈ ts) := fun z => by have z0 := new x z; rw [l1.gh _ _ e] at z0; cases z0
      show (if x = l ∨ x ∈ ts then H' x else g1 x) = some o
      rw [if_neg this]; exact e
    have gH : Same g' H' := fun x o e => by
      have e : (if x = l ∨ x ∈ ts then H' x else g1 x) = some o := e
      by_cases z : x = l ∨ x ∈ ts
      · rw [if_pos z] at e; exact e
      · rw [if_neg z] at e; exact kp _ _ (l1.gh _ _ e)
    have le : Le g1 h1 g' H' := ⟨gg, kp, gH, fun x n m => by
      show (if x = l ∨ x ∈ ts then H' x else g1 x) = none
      rw [if_neg (fun z => m (new x z))]; exact n⟩
    have at' : ∀ x, (x = l ∨ x ∈ ts) → g' x = H' x := fun x z => if_pos z
    refine q _ g' H' (l1.trans le) ⟨l, ts.map V.ref, rfl, .inl (.inl (by rw [at' l (.inl rfl)]; exact hH)), ?_⟩
    have pp : ∀ {ts' : List Addr} {us' : List (Key × V)} {l' : List (κ × β)}, (∀ t ∈ ts', t ∈ ts) → Paired (fun (t : Addr) (q : Key × V) => H' t = some (.tup [kV q.1, q.2])) ts' us' → Paired (KvR K g1) us' l' → Paired ((instPair (K := K) (α := κ) (β := β)).R g') (ts'.map V.ref) l' := by
      intro ts' us' l' hm h1 h2
      induction h1 generalizing l' with
      | nil => cases h2; exact .nil
      | @cons t u ts' us' r1 _ ih =>
        cases h2 with
        | cons r2 t2 => exact .cons ⟨t, kV u.1, u.2, rfl, (at' t (.inr (hm t List.mem_cons_self))).trans r1, pk.rv.mpr (congrArg kV r2.1), iβ.mono gg r2.2⟩ (ih (fun x hx => hm x (List.mem_cons_of_mem _ hx)) t2)
    exact pp (fun _ h => h) hp p
/-- {k: v for target in an iterable}, all keys apart; the dict stays as it is -/
theorem ev_dcI {xs : List α} {vs : List Nat} {gt : TG} {f : Env K → α → Env K} {p : α → Bool} {mk : α → κ} {mv : α → β} (hg : TgtF (K := K) gt vs f) (hx : EvI ti env os xs) (ht : ∀ x ∈ xs, EvT tt (f (wiped env vs) x) os (p x))
    (hk : ∀ x ∈ xs, p x = true → Ev tk (f (wiped env vs) x) os (mk x)) (hv : ∀ x ∈ xs, p x = true → Ev tv (f (wiped env vs) x) os (mv x)) (hl : xs.length ≤ 1000000) (nd : ((xs.filter p).map mk).Nodup) :
    Ev (tFrz (tDc ti gt tt tk tv vs)) env os (Dic.mk ((xs.filter p).map fun x => (mk x, mv x))) := fun {b g h σ Q} s q => by
  refine hx s fun J g1 h1 l1 y Dd hD => ?_
  refine ⟨fun n m H => m = xs.length - n ∧ n ≤ xs.length ∧ OcI K env os b g1 h1 σ vs Dd (Own.dk K (((xs.take n).filter p).map fun x => (mk x, mv x))) H, ⟨xs.length, by simp, Nat.zero_le _, OcI.start (s.le l1) hD vs ⟨[], rfl, .nil⟩⟩, ?_⟩
  rintro n m H ⟨rfl, hn, I⟩
  have hS : Same g1 H := by
    obtain ⟨g', s', e1, _⟩ := I.ex
    exact e1.trans s'.gh
  by_cases hlt : n < xs.length
  · refine .inr ⟨y.go n H hlt hS, fun H' => OcI K env os b g1 h1 σ vs Dd (Own.dk K (((xs.take (n + 1)).filter p).map fun x => (mk x, mv x))) H', fun H' I' => ⟨xs.length - (n + 1), by omega, rfl, hlt, I'⟩, fun v H' hy => ?_⟩
    have hxn := List.getElem?_eq_getElem hlt
    have hm := List.mem_of_getElem? hxn
    refine I.turn y hxn hy hg (ht _ hm) (fun hc H3 I3 => by rw [filter_take hxn, hc]; exact I3) fun hc σ2 g3 H3 s3 k => hk _ hm hc s3 fun z g4 h4 l4 r4 => hv _ hm hc (s3.le l4) fun z2 g5 h5 l5 r5 => ?_
    obtain ⟨o, eD, ⟨us, rfl, pw⟩, fin⟩ := k g5 h5 (l4.trans l5)
    refine ⟨us, pk.kk (mk xs[n]), pk.rv.mp r4, eD, by rw [pw.length]; exact take_lt hlt hl, ?_⟩
    refine fin _ _ ⟨_, rfl, ?_⟩
    rw [filter_take hxn, hc, if_pos rfl]
    refine kv_put r5 pw fun hin => ?_
    have e1 : (((xs.take n).filter p).map fun x => (mk x, mv x)).map Prod.fst = ((xs.take n).filter p).map mk := by rw [List.map_map]; rfl
    rw [e1] at hin
    have e2 : (xs.filter p).map mk = ((xs.take n).filter p).map mk ++ ((xs.drop n).filter p).map mk := by
      rw [← List.map_append, ← List.filter_append, List.take_append_drop]
    rw [e2] at nd
    refine (List.nodup_append.mp nd).2.2 _ hin _ ?_ rfl
    refine List.mem_map_of_mem (List.mem_filter.mpr ⟨?_, hc⟩)
    rw [List.drop_eq_getElem_cons hlt]
    exact List.mem_cons_self
  · have e : n = xs.length := by omega
    subst e
    rw [List.take_length] at I
    refine .inl ⟨y.stop H hS, I.done (Q := fun v H1 => ∃ d kvs, v = V.ref d ∧ H1 d = some (.dK kvs) ∧ ∀ od, Q v (upd H1 d (.frz od (.dK kvs)))) fun l o g' h' le hn' ⟨us, e, pr⟩ => ?_⟩
    subst e
    refine ⟨l, us, rfl, upd_same, fun od => ?_⟩
    have l2 := Le.laid (o := .frz od (.dK us)) le.gh hn'
    have e2 : upd (upd h' l (.dK us)) l (.frz od (.dK us)) = upd h' l (.frz od (.dK us)) := by
      funext x
      by_cases z : x = l
      · subst z; rw [upd_same, upd_same]
      · rw [upd_ne z, upd_ne z, upd_ne z]
    rw [e2]
    exact q _ _ _ ((l1.trans le).trans l2) ⟨l, od, us, rfl, upd_same, paired_mono (fun _ _ r => ⟨r.1, iβ.mono l2.gg r.2⟩) pr⟩
end
end Lw
/-! Own classes: methods, in, ==, constants, makers. -/
namespace Lw
open PySem PySem.Spec PyProof.Rows L2 ClX
/-- the class at C has the method m; its def keeps the promise sp -/
structure Met (CX : CXT) (P : Program) (w : World) (K : PySem.W.Frag) (mg : Str → Option Value) (base : Heap) (C : Addr) (m : Str) (k : Nat) (ps : List Str) (sp : Sp) : Prop where
  c : Cls K C
  ex : ∃ f fd, Meth K C m f ∧ Binds K fd ps [] ∧ FnOk P w K mg base CX k f fd ps sp
/-- the class called x, at C, is made by .. -/
structure Mak (P : Program) (w : World) (K : PySem.W.Frag) (mg : Str → Option Value) (base : Heap) (x : Str) (C : Addr) (k : Nat) (ps : List Str) (dvs : List V) (sp : Sp) : Prop where
  g : mg x = some (.ref C)
  ex : ∃ f fd ds, Mk K C f ∧ Binds K fd ps ds ∧ Vals dvs ds ∧ FnOk P w K mg base (L2N.CX P w) k f fd ps sp
/-- .. by keywords ks behind n values -/
structure MakK (P : Program) (w : World) (K : PySem.W.Frag) (mg : Str → Option Value) (base : Heap) (x : Str) (C : Addr) (k n : Nat) (ps ks : List Str) (gV : List V → List V → List V) (sp : Sp) : Prop where
  g : mg x = some (.ref C)
  ex : ∃ f fd gU, Mk K C f ∧ KBn K fd ps (n + 1) ks gU gV ∧ FnOk P w K mg base (L2N.CX P w) k f fd ps sp
section
variable {X : Cx} {C : Addr} {m x : Str} {k n : Nat} {ps ks : List Str} {sp : Sp} {dvs : List V} {o e : Expr} {es : List Expr} {ta te : TE} {t tk : TA} {p apos pos : Pos}
theorem pe_m {pl : Sem Bool} (M : Met CX0 X.prog X.w X.K X.mg X.base C m k ps sp) (hr : Room k X.A) (he : PE X o ta) (ha : PA X (e :: es) t)
    (hst : starEach (e :: es) X.env = (false, eval e X.env) :: starEach es X.env := by rfl) (hpl : (backTo pos (starEach es X.env)).any (·.1) = false := by rfl)
    (ht : eval (.Call (.Attribute o m apos) (e :: es) [] pos) X.env = (do
      let ov ← eval o X.env
      standAt apos.atName
      let (f, first) ← holding [ov] (getMethod ov m pl)
      callWith pos f first (backTo pos (starEach (e :: es) X.env)) (backToKw pos (keywordEach [] X.env))) := by rfl) :
    PE X (.Call (.Attribute o m apos) (e :: es) [] pos) (tMeth C m sp [] E0 ta t) := by
  obtain ⟨f, fd, hm, bi, F⟩ := M.ex
  exact pe_meth he M.c hm F hr bi .nil pass0 ha hst hpl ht
theorem pe_mE {pl : Sem Bool} {E : XK} {W : WX} (M : Met (L2N.CX X.prog X.w) X.prog X.w X.K X.mg X.base C m k ps sp) (hr : Room k X.A) (tk : L2N.Takes X W) (hW : ∀ cls d σ H, E cls d H → W cls d σ H) (he : PE X o ta) (ha : PA X (e :: es) t)
    (hst : starEach (e :: es) X.env = (false, eval e X.env) :: starEach es X.env := by rfl) (hpl : (backTo pos (starEach es X.env)).any (·.1) = false := by rfl)
    (ht : eval (.Call (.Attribute o m apos) (e :: es) [] pos) X.env = (do
      let ov ← eval o X.env
      standAt apos.atName
      let (f, first) ← holding [ov] (getMethod ov m pl)
      callWith pos f first (backTo pos (starEach (e :: es) X.env)) (backToKw pos (keywordEach [] X.env))) := by rfl) :
    PE X (.Call (.Attribute o m apos) (e :: es) [] pos) (tMeth C m sp [] E ta t) := by
  obtain ⟨f, fd, hm, bi, F⟩ := M.ex
  exact pe_meth he M.c hm F hr bi .nil (L2N.passes_call tk hW) ha hst hpl ht
/-- C(..) -/
theorem pe_mk {E : XK} {W : WX} (M : Mak X.prog X.w X.K X.mg X.base x C k ps dvs sp) (hr : Room (k + 1) X.A) (tk : L2N.Takes X W) (hW : ∀ cls d σ H, E cls d H → W cls d σ H) (hg : Gl X x) (ha : PA X (e :: es) t) (hdb : (x == ("__debug__" : Str)) = false := by decide)
    (he : starEach (e :: es) X.env = (false, eval e X.env) :: starEach es X.env := by rfl) (hpl : (backTo pos (starEach es X.env)).any (·.1) = false := by rfl) : PE X (.Call (.Name x p) (e :: es) [] pos) (tMake C sp dvs E t) := by
  obtain ⟨f, fd, ds, hm, bi, hd, F⟩ := M.ex
  exact pe_make hm F hr hg M.g bi hd (L2N.passes_call tk hW) ha hdb he hpl
/-! ### x in o, o an instance with its own __contains__ -/
def rInOwn (C : Addr) (sp : Sp) : V → V → Hp → VK → Prop := fun x y H Q => ∃ a dx fs, y = .ref a ∧ H a = some (.ins C dx fs) ∧ sp [y, x] H (fun v H' => ∃ c, v = .bl c ∧ Q (.bl c) H') E0
theorem op_inOwn (M : Met CX0 X.prog X.w X.K X.mg X.base C "__contains__" k ps sp) (hr : Room k X.A) : OpR X (compareOp .In) (rInOwn C sp) := by
  intro pins s σ H x y v u Q I rx ry h
  obtain ⟨a, dx, fs, rfl, ha, hq⟩ := h
  obtain ⟨f, fd, hm, bi, F⟩ := M.ex
  obtain rfl : u = Value.ref a := ry
  obtain ⟨mA, J, _⟩ := ins_get I.hok ha
  obtain ⟨od, J, _⟩ := J.look
  obtain ⟨m, hF⟩ := I.fr
  refine PySem.W.in_K hF I.ok.mod.kin J hm.at_ hm.fn ?_
  refine wpAny_mono (run_fn (us := [.ref a, v]) (vs := [.ref a, x]) F hr bi .nil pass0 I (.cons rfl (.cons rx .nil)) hq) (fun r s' hr' => ?_) fun _ _ z => z
  obtain ⟨x', H', I', rx', c, rfl, q⟩ := hr'
  cases rx'
  exact wpAny_truthy_bool ⟨.bl c, H', I', rfl, q⟩
/-! ### o == o2, both instances of a class with its own __eq__ -/
def rEqOwn (C : Addr) (sp : Sp) : V → V → Hp → VK → Prop := fun x y H Q => ∃ a dx fs b dy gs, x = .ref a ∧ y = .ref b ∧ H a = some (.ins C dx fs) ∧ H b = some (.ins C dy gs) ∧ sp [x, y] H (fun v H' => ∃ c, v = .bl c ∧ Q (.bl c) H') E0
theorem op_eqOwn (M : Met CX0 X.prog X.w X.K X.mg X.base C "__eq__" k ps sp) (hr : Room k X.A) : OpR X (compareOp .Eq) (rEqOwn C sp) := by
  intro pins s σ H x y v u Q I rx ry h
  obtain ⟨a, dx, fs, b, dy, gs, rfl, rfl, ha, hb, hq⟩ := h
  obtain ⟨f, fd, hm, bi, F⟩ := M.ex
  obtain rfl : v = Value.ref a := rx
  obtain rfl : u = Value.ref b := ry
  obtain ⟨mA, J, _⟩ := ins_get I.hok ha
  obtain ⟨mB, J', _⟩ := ins_get I.hok hb
  obtain ⟨od, J, _⟩ := J.look
  obtain ⟨od', J', _⟩ := J'.look
  obtain ⟨m, hF⟩ := I.fr
  refine PySem.W.cmp_K (op := .Eq) (tb := .ref C) hr.units0 hF I.ok.mod.kin J J'.type (by simp [PySem.W.notFirst]) hm.at_ hm.fn ?_
  refine wpAny_mono (run_fn (us := [.ref a, .ref b]) (vs := [.ref a, .ref b]) F hr bi .nil pass0 I (.cons rfl (.cons rfl .nil)) hq) (fun r s' hr' => ?_) fun _ _ z => z
  obtain ⟨x', H', I', rx', c, rfl, q⟩ := hr'
  cases rx'
  exact ⟨.bl c, H', I', rfl, q⟩
end
/-! ### a class's constant -/
theorem cvalB_ok {K : PySem.W.Frag} {C f : Str} {n : Int} (h : cvalB K C f n = true) : CRead K (He.ga K C) (.type "type") ∧ ∃ u, CVal K (He.ga K C) (.type "type") f (.int n) u := by
  obtain ⟨h1, h2⟩ := He.ba h
  obtain ⟨h2, h3⟩ := He.ba h2
  refine ⟨⟨h1, He.eqO_ok h2⟩, ?_⟩
  split at h3
  · rename_i j t e
    have ej : j = n := of_decide_eq_true h3
    subst ej
    exact ⟨_, e, t, rfl⟩
  · cases h3
section
variable {K : PySem.W.Frag} {env : Env K} {os : Os} {ta tb te : TE} {t : TA} {C : Addr} {fs gs : List (Str × Slot K)} {α κ : Type} [iα : Py K α] [iκ : Py K κ]
theorem ev_cval {f : Str} {n : Int} {u mc : Value} (ha : Ev ta env os (V.ref C)) (r : CRead K C mc) (c : CVal K C mc f (.int n) u) : Ev (tCVal K ta f) env os n := fun {b g h σ Q} s q =>
  ha s fun v g1 h1 l1 r1 => by
    cases r1
    exact ⟨C, mc, .int n, u, rfl, r, c, q _ g1 h1 l1 rfl⟩
theorem ev_inOwn {A : List (Slot K) → (Bool → Prop) → Prop} {x : κ} {y : α} {c : Bool} (ha : Ev ta env os x) (hb : Ev tb env os y) (hR : InsOf K C y fs) (hA : A [sv y, sv x] (fun z => z = c)) : Ev (tOp (rInOwn C (SpR K A)) ta tb) env os c := fun {b g h σ Q} s q =>
  ha s fun v g1 h1 l1 r1 => hb (s.le l1) fun w g2 h2 l2 r2 => by
    obtain ⟨a, dx, ws, rfl, h3, h4⟩ := hR _ _ r2
    exact ⟨a, dx, ws, rfl, l2.gh _ _ h3, g2, _, _, hA, l2.gh, .cons ⟨_, rfl, r2⟩ (.cons ⟨_, rfl, iκ.mono l2.gg r1⟩ .nil), fun v' z' g3 h5 hz l3 r3 => ⟨c, by cases r3; rw [hz], q _ g3 h5 ((l1.trans l2).trans l3) rfl⟩⟩
theorem ev_eqOwn {β : Type} [iβ : Py K β] {A : List (Slot K) → (Bool → Prop) → Prop} {x : α} {y : β} {c : Bool} (ha : Ev ta env os x) (hb : Ev tb env os y) (hR : InsOf K C x fs) (hR2 : InsOf K C y gs) (hA : A [sv x, sv y] (fun z => z = c)) : Ev (tOp (rEqOwn C (SpR K A)) ta tb) env os c := fun {b g h σ Q} s q =>
  ha s fun v g1 h1 l1 r1 => hb (s.le l1) fun w g2 h2 l2 r2 => by
    obtain ⟨a, dx, ws, rfl, h3, h4⟩ := hR _ _ r1
    obtain ⟨a2, dx2, ws2, rfl, h5, h6⟩ := hR2 _ _ r2
    exact ⟨a, dx, ws, a2, dx2, ws2, rfl, rfl, l2.gh _ _ (l2.gg _ _ h3), l2.gh _ _ h5, g2, _, _, hA, l2.gh, .cons ⟨_, rfl, iα.mono l2.gg r1⟩ (.cons ⟨_, rfl, r2⟩ .nil), fun v' z' g3 h7 hz l3 r3 => ⟨c, by cases r3; rw [hz], q _ g3 h7 ((l1.trans l2).trans l3) rfl⟩⟩
end
end Lw
/-! Texts by their signs; a list or any tuple; isinstance of an own class. -/
namespace Lw
open PySem PySem.Spec PyProof.Rows L2
/-- a text, its code points -/
structure Sg where
  l : List Nat
  deriving DecidableEq
abbrev Sg.s (x : Sg) : Str := ⟨x.l.toArray⟩
/-- t * n -/
def rRepS : V → V → Hp → VK → Prop := fun x y H Q => ∃ (z : Str) (n : Int), x = .str z ∧ y = .int n ∧ z.length ≤ 1000 ∧ n ≤ 1000 ∧ -1000 ≤ n ∧ Q (.str ⟨(List.replicate n.toNat z.cps.toList).flatten.toArray⟩) H
theorem fold_flat {α : Type} : ∀ (l : List (Array α)) (a : Array α), (l.foldl (· ++ ·) a).toList = a.toList ++ (l.map Array.toList).flatten
  | [], a => by simp
  | b :: l, a => by rw [List.foldl_cons, fold_flat l, List.map_cons, List.flatten_cons, Array.toList_append, List.append_assoc]
theorem mul_flat (z : Str) (n : Int) : Txt.mul z n = ⟨(List.replicate n.toNat z.cps.toList).flatten.toArray⟩ := by
  obtain ⟨cps⟩ := z
  unfold Txt.mul
  by_cases h1 : n < 1
  · rw [if_pos h1, show n.toNat = 0 by omega]; rfl
  · rw [if_neg h1]
    by_cases h2 : (n == 1 || (⟨cps⟩ : Str).length == 0) = true
    · rw [if_pos h2]
      rcases Bool.or_eq_true_iff.mp h2 with h | h
      · rw [beq_iff_eq.mp h]
        simp
      · have e : cps = #[] := Array.size_eq_zero_iff.mp (beq_iff_eq.mp h)
        subst e
        simp
    · rw [if_neg h2]
      congr 1
      apply Array.toList_inj.mp
      rw [fold_flat]
      simp
section
variable {X : Cx}
theorem op_repS : OpR X (binaryOp .Mult) rRepS := by
  intro pins s σ H x y v u Q I rx ry h
  obtain ⟨z, n, rfl, rfl, hz, h1, h2, q⟩ := h
  obtain ⟨t, rfl⟩ := rx
  obtain ⟨t', rfl⟩ := ry
  rw [← mul_flat] at q
  have hl : z.length * n.toNat ≤ 1000 * 1000 := Nat.mul_le_mul hz (by omega)
  refine SB.mul ⟨?_, fun a b c => ?_, fun a b => ?_⟩ fun t2 k => ⟨.str (Txt.mul z n), H, I.tok _, ⟨t2, rfl⟩, q⟩
  · rw [decide_eq_false (by omega), decide_eq_false (by omega)]; rfl
  · have hn : 0 < n := by omega
    have h3 : (z.length : Int) * n ≤ 1000 * 1000 := Int.mul_le_mul (by omega) h1 (by omega) (by decide)
    refine absurd c (Int.not_lt.mpr (Int.le_ediv_of_mul_le hn (Int.le_trans h3 ?_)))
    decide
  · unfold Builtin.Str.tooLong
    refine decide_eq_false (Nat.not_lt.mpr (Nat.le_trans hl ?_))
    rw [sizeLine_eq]; decide
end
section
variable {K : PySem.W.Frag}
instance instSg : Py K Sg := ⟨fun _ v x => v = .str x.s, fun _ h => h⟩
instance : PyT K Sg "str" := ⟨fun _ r => by cases r; exact .base (.str _)⟩
theorem sg_inj {x y : Sg} (h : x.s = y.s) : x = y := by
  obtain ⟨x⟩ := x
  obtain ⟨y⟩ := y
  have e : x.toArray = y.toArray := congrArg Str.cps h
  simpa using e
theorem sg_eq {x y : Sg} : decide (V.str x.s = V.str y.s) = decide (x = y) := by
  by_cases e : x = y
  · subst e; simp
  · rw [decide_eq_false e, decide_eq_false]
    intro h
    exact e (sg_inj (V.str.inj h))
instance : PyK K Sg := ⟨fun x => .inr x.s, fun h => sg_inj (Sum.inr.inj h), fun {g v x} => Iff.rfl⟩
instance : PyD K Sg 0 := ⟨fun x => .str x.s, fun x => x.l.all (· < 0x110000) = true, fun _ r => by cases r; exact .str _, fun h => by
    show (Array.all _ _) = true
    simpa using h, fun _ => Nat.le_refl _, fun {x y} => by
    show (x.s == y.s) = true ↔ _
    rw [beq_iff_eq]
    exact ⟨sg_inj, fun h => by rw [h]⟩⟩
variable {env : Env K} {os : Os} {ta tb te : TE} {tl th : TO} {α κ : Type} [iα : Py K α] [iκ : Py K κ]
theorem ev_lit {z : Str} {l : List Nat} (e : z = ⟨l.toArray⟩ := by rfl) : Ev (tC (.str z)) env os (Sg.mk l) := fun {b g h σ Q} s q => q _ g h (Le.refl s.gh) (by rw [e]; rfl)
theorem ev_toSg {z : Str} (h : Ev te env os z) : Ev te env os (Sg.mk z.cps.toList) := fun {b g h' σ Q} s q => h s fun v g1 h1 l1 r1 => q v g1 h1 l1 (by cases r1; rfl)
theorem ev_ofSg {z : Sg} (h : Ev te env os z) : Ev te env os z.s := fun {b g h' σ Q} s q => h s fun v g1 h1 l1 r1 => q v g1 h1 l1 (by cases r1; rfl)
theorem ev_addG {x y : Sg} (ha : Ev ta env os x) (hb : Ev tb env os y) (hl : x.l.length + y.l.length ≤ 1000000) : Ev (tOp (fun x y H Q => ∃ i j : Str, x = V.str i ∧ y = V.str j ∧ i.length + j.length ≤ sizeLine ∧ Q (.str (i ++ j)) H) ta tb) env os (Sg.mk (x.l ++ y.l)) := fun {b g h σ Q} s q =>
  ha s fun v g1 h1 l1 r1 => hb (s.le l1) fun w g2 h2 l2 r2 => ⟨x.s, y.s, r1, r2, by
    have : (1000000 : Nat) ≤ sizeLine := by rw [sizeLine_eq]; omega
    show (x.l.toArray).size + (y.l.toArray).size ≤ _
    rw [List.size_toArray, List.size_toArray]
    omega, q _ g2 h2 (l1.trans l2) (by
    show V.str ⟨x.l.toArray ++ y.l.toArray⟩ = V.str ⟨(x.l ++ y.l).toArray⟩
    simp)⟩
theorem ev_repG {x : Sg} {n : Int} (ha : Ev ta env os x) (hb : Ev tb env os n) (hl : x.l.length ≤ 1000) (hn : -1000 ≤ n ∧ n ≤ 1000) : Ev (tOp rRepS ta tb) env os (Sg.mk (List.replicate n.toNat x.l).flatten) := fun {b g h σ Q} s q =>
  ha s fun v g1 h1 l1 r1 => hb (s.le l1) fun w g2 h2 l2 r2 => ⟨x.s, n, r1, r2, by show (x.l.toArray).size ≤ _; rw [List.size_toArray]; exact hl, hn.2, hn.1, q _ g2 h2 (l1.trans l2) rfl⟩
theorem ev_slG {x : Sg} {lo hi : Option Int} (ha : Ev ta env os x) (h1 : EvO tl env os lo) (h2 : EvO th env os hi) (hl : x.l.length ≤ 1000000) : Ev (tSl rSlS ta tl th) env os (Sg.mk (cut x.l lo hi)) := fun {b g h' σ Q} s q =>
  ha s fun v g1 h3 l1 r1 => h1 (s.le l1) fun g2 h4 l2 => h2 ((s.le l1).le l2) fun g3 h5 l3 => ⟨x.s, r1, by
    have : (1000000 : Nat) ≤ sizeLine := by rw [sizeLine_eq]; omega
    show (x.l.toArray).size ≤ _
    rw [List.size_toArray]
    omega, q _ g3 h5 ((l1.trans l2).trans l3) (by
    show V.str (cutS x.s lo hi) = V.str ⟨(cut x.l lo hi).toArray⟩
    unfold cutS cut
    have e : x.s.length = x.l.length := by show (x.l.toArray).size = _; rw [List.size_toArray]
    rw [e])⟩
theorem ev_ixG {x : Sg} {i : Int} {c : Nat} (ha : Ev ta env os x) (hb : Ev tb env os i) (hl : x.l.length ≤ 1000000) (h : atI x.l i = some c) : Ev (tOp rIxS ta tb) env os (Sg.mk [c]) := fun {b g h' σ Q} s q =>
  ha s fun v g1 h1 l1 r1 => hb (s.le l1) fun w g2 h2 l2 r2 => ⟨x.s, i, c, r1, r2, by
    have : (1000000 : Nat) ≤ sizeLine := by rw [sizeLine_eq]; omega
    show (x.l.toArray).size ≤ _
    rw [List.size_toArray]
    omega, by simpa using h, q _ _ _ (l1.trans l2) rfl⟩
theorem ev_lenG {x : Sg} (ha : Ev ta env os x) (hl : x.l.length ≤ 1000000) : Ev (tCB (fun xs H Q => ∃ z, xs = [V.str z] ∧ z.length ≤ sizeLine ∧ Q (.int z.length) H) (tCons ta tNil)) env os (x.l.length : Int) := ev_cb1 ha fun v g h e r Q q => by
  cases r
  refine ⟨x.s, rfl, ?_, q _ g h (Le.refl e) ?_⟩
  · have : (1000000 : Nat) ≤ sizeLine := by rw [sizeLine_eq]; omega
    show (x.l.toArray).size ≤ _
    rw [List.size_toArray]
    omega
  · show V.int ((x.l.toArray).size : Int) = _
    rw [List.size_toArray]
theorem ev_inG {c : Nat} {x : Sg} (ha : Ev ta env os (Sg.mk [c])) (hb : Ev tb env os x) : Ev (tOp (fun x y H Q => ∃ (c : Nat) (z : Str), x = V.str ⟨#[c]⟩ ∧ y = V.str z ∧ Q (.bl (decide (c ∈ z.cps.toList))) H) ta tb) env os (decide (c ∈ x.l)) := fun {b g h σ Q} s q =>
  ha s fun v g1 h1 l1 r1 => hb (s.le l1) fun w g2 h2 l2 r2 => ⟨c, x.s, r1, r2, q _ g2 h2 (l1.trans l2) (by
    show V.bl (decide (c ∈ x.l.toArray.toList)) = _
    simp)⟩
theorem ev_ninG {c : Nat} {x : Sg} (ha : Ev ta env os (Sg.mk [c])) (hb : Ev tb env os x) : Ev (tOp (fun x y H Q => ∃ (c : Nat) (z : Str), x = V.str ⟨#[c]⟩ ∧ y = V.str z ∧ Q (.bl (!decide (c ∈ z.cps.toList))) H) ta tb) env os (!decide (c ∈ x.l)) := fun {b g h σ Q} s q =>
  ha s fun v g1 h1 l1 r1 => hb (s.le l1) fun w g2 h2 l2 r2 => ⟨c, x.s, r1, r2, q _ g2 h2 (l1.trans l2) (by
    show V.bl (!decide (c ∈ x.l.toArray.toList)) = _
    simp)⟩
theorem ev_eqG {x y : Sg} (ha : Ev ta env os x) (hb : Ev tb env os y) : Ev (tOp rEq ta tb) env os (decide (x = y)) := fun {b g h σ Q} s q =>
  ha s fun v g1 h1 l1 r1 => hb (s.le l1) fun w g2 h2 l2 r2 => by
    cases r1; cases r2
    exact ⟨rfl, by rw [sg_eq]; exact q _ _ _ (l1.trans l2) rfl⟩
theorem ev_neG {x y : Sg} (ha : Ev ta env os x) (hb : Ev tb env os y) : Ev (tOp rNe ta tb) env os (!decide (x = y)) := fun {b g h σ Q} s q =>
  ha s fun v g1 h1 l1 r1 => hb (s.le l1) fun w g2 h2 l2 r2 => by
    cases r1; cases r2
    exact ⟨rfl, by rw [sg_eq]; exact q _ _ _ (l1.trans l2) rfl⟩
/-- the signs, as texts -/
def Sg.signs (x : Sg) : List Sg := x.l.map fun c => ⟨[c]⟩
theorem ei_strG {x : Sg} (ha : Ev ta env os x) : EvI (iStr ta) env os x.signs := fun {b g h σ R} s q =>
  ha s fun v g1 h1 l1 r1 => by
    cases r1
    have hz : x.signs.length = (x.s).cps.size := by
      show (x.l.map _).length = (x.l.toArray).size
      rw [List.length_map, List.size_toArray]
    refine ⟨x.s, rfl, q _ g1 h1 l1 ⟨fun n H hn _ => by rw [hz] at hn; exact hn, fun H _ => by rw [hz]; exact Nat.le_refl _, fun n g2 H y v H' e1 e2 hx hy => ?_⟩⟩
    obtain ⟨rfl, c, hc, rfl⟩ := hy
    have hc : x.l[n]? = some c := by
      have : (x.l.toArray)[n]? = some c := hc
      simpa using this
    unfold Sg.signs at hx
    rw [List.getElem?_map, hc] at hx
    cases hx
    exact ⟨g2, Le.refl e2, rfl⟩
def Sg.enum (x : Sg) : List (Int × Sg) := x.l.zipIdx.map fun p => (((p.2 : Nat) : Int), ⟨[p.1]⟩)
theorem ei_enumG {x : Sg} (ha : Ev ta env os x) : EvI (iEnumS (tCons ta tNil)) env os x.enum := fun {b g h σ R} s q =>
  ha s fun v g1 h1 l1 r1 => by
    cases r1
    have hz : x.enum.length = (x.s).cps.size := by
      show (x.l.zipIdx.map _).length = (x.l.toArray).size
      rw [List.length_map, List.size_toArray, List.length_zipIdx]
    refine ⟨x.s, rfl, q _ g1 h1 l1 ⟨fun n H hn _ => by rw [hz] at hn; exact hn, fun H _ => by rw [hz]; rfl, fun n g2 H y v H' e1 e2 hx hy => ?_⟩⟩
    obtain ⟨T, c, rfl, hT, rfl, hc⟩ := hy
    have hc : x.l[n]? = some c := by
      have : (x.l.toArray)[n]? = some c := hc
      simpa using this
    unfold Sg.enum at hx
    rw [List.getElem?_map, List.getElem?_zipIdx, hc] at hx
    simp only [Option.map_some, Nat.zero_add, Option.some.injEq] at hx
    subst hx
    exact ⟨_, Le.laid e2 hT, T, _, _, rfl, upd_same, rfl, rfl⟩
/-! ### a list or any tuple -/
structure Sw (α : Type) where
  l : List α
instance instSw : Py K (Sw α) := ⟨fun g v x => ∃ a vs, v = .ref a ∧ (SqL K g a vs ∨ SqT K g a vs) ∧ Paired (iα.R g) vs x.l, fun {g g' v x} e ⟨a, vs, h1, h2, h3⟩ => ⟨a, vs, h1, h2.imp (fun z => e.seq z) (fun z => same_seqT e z), paired_mono (fun _ _ q => iα.mono e q) h3⟩⟩
theorem ev_swL {xs : List α} (ha : Ev te env os xs) : Ev te env os (Sw.mk xs) := fun {b g h σ Q} s q => ha s fun v g1 h1 l1 ⟨a, vs, h2, h3, h4⟩ => q v g1 h1 l1 ⟨a, vs, h2, .inl h3, h4⟩
theorem ev_swT {xs : Tup α} (ha : Ev te env os xs) : Ev te env os (Sw.mk xs.l) := fun {b g h σ Q} s q => ha s fun v g1 h1 l1 ⟨a, vs, h2, h3, h4⟩ => q v g1 h1 l1 ⟨a, vs, h2, .inr (.inl (.inl h3)), h4⟩
theorem ei_sw {xs : Sw α} (ha : Ev ta env os xs) : EvI (iSq K ta) env os xs.l := fun {b g h σ R} s q =>
  ha s fun v g1 h1 l1 r1 => by
    obtain ⟨a, us, rfl, hq, hp⟩ := r1
    have hl := hp.length
    rcases hq with hq | hq
    · refine ⟨a, rfl, .inl ⟨⟨us, l1.gh.seq hq⟩, q _ g1 h1 l1 ⟨fun n H hn e => ⟨us, us[n]'(by omega), e.seq hq, List.getElem?_eq_getElem (by omega)⟩, fun H e => ⟨us, e.seq hq, by omega⟩, fun n g2 H x v H' e1 e2 hx hy => ?_⟩⟩⟩
      obtain ⟨rfl, hy⟩ := hy
      have hu := hy us ((e1.trans e2).seq hq)
      obtain ⟨y, hy2, r⟩ := paired_getL hp hu
      rw [hx] at hy2
      cases hy2
      exact ⟨g2, Le.refl e2, iα.mono e1 r⟩
    · refine ⟨a, rfl, .inr ⟨⟨us, same_seqT l1.gh hq⟩, q _ g1 h1 l1 ⟨fun n H hn e => ⟨us, us[n]'(by omega), same_seqT e hq, List.getElem?_eq_getElem (by omega)⟩, fun H e => ⟨us, same_seqT e hq, by omega⟩, fun n g2 H x v H' e1 e2 hx hy => ?_⟩⟩⟩
      obtain ⟨rfl, hy⟩ := hy
      have hu := hy us (same_seqT (e1.trans e2) hq)
      obtain ⟨y, hy2, r⟩ := paired_getL hp hu
      rw [hx] at hy2
      cases hy2
      exact ⟨g2, Le.refl e2, iα.mono e1 r⟩
theorem es_setW {w : World} {x : Sw Int} (ha : Ev ta env os x) (hl : x.l.length ≤ 1000) : EvS w (tCB (rSetI w K) (tCons ta tNil)) env os (fun j => decide (j ∈ x.l)) x.l.length := fun {b g h σ Q} s q =>
  ha s fun v g1 h1 l1 r1 => by
    obtain ⟨a, vs, rfl, h2, h3⟩ := r1
    have e := ints_map h3
    subst e
    exact ⟨a, x.l, rfl, h2.imp (fun z => l1.gh.seq z) (fun z => same_seqT l1.gh z), hl, fun p c hp hcn => q p c g1 h1 l1 hp hcn⟩
theorem emptyT_ok {a : Addr} {H : Hp} (h : emptyT K a = true) : SqT K H a [] := by
  unfold emptyT at h
  split at h
  · rename_i c od its n sl e
    obtain ⟨h1, h2⟩ := He.ba h
    have e1 := of_decide_eq_true h1
    subst e1
    have e2 : its = #[] := Array.isEmpty_iff.mp h2
    subst e2
    exact .inr ⟨_, #[], n, e, rfl, rfl, Nat.zero_le _, .nil⟩
  · cases h
theorem sw_empty {a : Addr} (h : emptyT K a = true) (g : Hp) : (sv (K := K) (Sw.mk ([] : List α))).ok g (some (V.ref a)) := ⟨_, rfl, a, [], rfl, .inr (emptyT_ok h), .nil⟩
/-- isinstance(x, C): x an instance of C -/
theorem ev_isC {C : Addr} {x : α} {fs : List (Str × Slot K)} (ha : Ev ta env os x) (hR : InsOf K C x fs) : Ev (tCB (fun xs H Q => ∃ a dx fs, xs = [V.ref a, V.ref C] ∧ H a = some (.ins C dx fs) ∧ Q (.bl true) H) (tCons ta (tCons (tC (.ref C)) tNil))) env os true := fun {b g h σ Q} s q =>
  ha s fun v g1 h1 l1 r1 => by
    obtain ⟨a, dx, ws, rfl, h2, h3⟩ := hR _ _ r1
    exact ⟨a, dx, ws, rfl, l1.gh _ _ h2, q _ g1 h1 l1 rfl⟩
end
end Lw
/-! The head's facts of an own class. -/
namespace Lw
open PySem PySem.Spec PyProof.Rows L2 ClX C8
theorem insCB_ok {K : PySem.W.Frag} {x : Str} (h : insCB K x = true) : InsC K (He.ga K x) := by
  obtain ⟨h1, h⟩ := He.ba h
  obtain ⟨h2, h⟩ := He.ba h
  obtain ⟨h3, h⟩ := He.ba h
  obtain ⟨h4, h⟩ := He.ba h
  obtain ⟨h5, h6⟩ := He.ba h
  exact ⟨He.cls_ok h1, He.eqO_ok h2, He.eqO_ok h3, of_decide_eq_true h4, of_decide_eq_true h5, of_decide_eq_true h6⟩
section
variable {fa : List He.Fa} {fn : List He.DefD} {ex : PySem.W.Frag → Bool} {xs : List XD} {K : PySem.W.Frag} {mg : Str → Option Value} {P : Program} {w : World} {base : Heap}
theorem Fy.noat (E : Fy fa fn ex xs K mg) (i : Nat) {x f : Str} (h : fa[i]? = some (.noat x f) := by rfl) : NoAttr K (He.ga K x) f := He.noat_ok (E.f.d.fact i h)
theorem Fy.cls (E : Fy fa fn ex xs K mg) (i : Nat) {x : Str} (h : fa[i]? = some (.cls x) := by rfl) : Cls K (He.ga K x) := He.cls_ok (E.f.d.fact i h)
theorem Fy.met {CX : CXT} (E : Fy fa fn ex xs K mg) (i j jc : Nat) {C m q : Str} {st : Stmt} {ps : List Str} {k : Nat} {sp : Sp} (hi : fn[i]? = some ⟨(C, some m), m, q, defArgs st, defBody st, defScope st, [], []⟩) (hj : fa[j]? = some (.meth C m)) (hc : fa[jc]? = some (.cls C))
    (hbi : ∀ (kV doc pm : Value) (an : Option Addr) (cdv ct : Value) (us : List Value), us.length = ps.length → bindArgs (PySem.W.fnOf m q (defArgs st) (defBody st) (defScope st) .none kV doc pm an cdv ct) ⟨us, []⟩ = pure (ps.zip us))
    (hf : ∀ f fd, FunD K m q (defArgs st) (defBody st) (defScope st) [] [] f fd → FnOk P w K mg base CX k f fd ps sp) : Met CX P w K mg base (He.ga K C) m k ps sp := by
  obtain ⟨fd, F⟩ := E.f.d.def_ i hi
  exact ⟨He.cls_ok (E.f.d.fact jc hc), _, fd, He.meth_ok (E.f.d.fact j hj), F.bindsN hbi, hf _ fd F⟩
/-- C(..), n values (self too) written, the defaults behind the first jd fill up -/
theorem Fy.mak (E : Fy fa fn ex xs K mg) (i j jg n jd : Nat) {C q : Str} {st : Stmt} {ps : List Str} {dfl : List He.Dv} {k : Nat} {sp : Sp} (hi : fn[i]? = some ⟨(C, some "__init__"), "__init__", q, defArgs st, defBody st, defScope st, dfl, []⟩) (hj : fa[j]? = some (.mkr C)) (hg : fa[jg]? = some (.glo C)) (hd : dfl ≠ []) (hn : n + (dfl.length - jd) = ps.length)
    (hbi : ∀ (T : Addr) (kV doc pm : Value) (an : Option Addr) (cdv ct : Value) (us its : List Value), us.length = n → its.length = dfl.length →
      ∃ k, bindArgs (PySem.W.fnOf "__init__" q (defArgs st) (defBody st) (defScope st) (.ref T) kV doc pm an cdv ct) ⟨us, []⟩ = seqItems? (.ref T) >>= k ∧ k (some its.toArray) = pure (ps.zip (us ++ its.drop jd)))
    (hf : ∀ f fd, FunD K "__init__" q (defArgs st) (defBody st) (defScope st) (dfl.map (He.Dv.v K)) [] f fd → FnOk P w K mg base (L2N.CX P w) k f fd ps sp) : Mak P w K mg base C (He.ga K C) k ps ((dfl.map (He.Dv.v K)).drop jd) sp := by
  obtain ⟨fd, F⟩ := E.f.d.def_ i hi
  have hl : (dfl.map (He.Dv.v K)).length = dfl.length := List.length_map _
  obtain ⟨ds, h1, h2⟩ := FunD.binds1 (ps := ps) F n jd (fun z => hd (List.map_eq_nil_iff.mp z)) (by show n + ((dfl.map (He.Dv.v K)).length - jd) = _; rw [hl]; exact hn) fun T kV doc pm an cdv ct us its l1 l2 => hbi T kV doc pm an cdv ct us its l1 (by rw [l2]; exact hl)
  exact ⟨E.gref jg hg, _, fd, ds, He.mkr_ok (E.f.d.fact j hj), h2, h1, hf _ fd F⟩
end
end Lw
/-! Ranges as iterables. -/
namespace Lw
open PySem PySem.Spec PyProof.Rows L2
/-- i, i + 1, .. , j - 1 -/
def rng (i j : Int) : List Int := (List.range (j - i).toNat).map fun (k : Nat) => i + (k : Int)
theorem rng_len {i j : Int} : (rng i j).length = (j - i).toNat := by unfold rng; simp
theorem rng_at {i j : Int} {k : Nat} {x : Int} (h : (rng i j)[k]? = some x) : x = i + k ∧ k < (j - i).toNat := by
  unfold rng at h
  rw [List.getElem?_map] at h
  by_cases hk : k < (j - i).toNat
  · rw [List.getElem?_range hk] at h
    exact ⟨(Option.some.inj h).symm, hk⟩
  · rw [List.getElem?_eq_none (by simp; omega)] at h
    cases h
theorem mem_rng {i j x : Int} : x ∈ rng i j ↔ i ≤ x ∧ x < j := by
  unfold rng
  rw [List.mem_map]
  constructor
  · rintro ⟨k, hk, rfl⟩
    rw [List.mem_range] at hk
    omega
  · intro ⟨h1, h2⟩
    exact ⟨(x - i).toNat, by rw [List.mem_range]; omega, by omega⟩
theorem drop_one {α : Type} {xs : List α} {n : Nat} {x : α} (h : xs[n]? = some x) : xs.drop n = x :: xs.drop (n + 1) := by
  obtain ⟨hn, rfl⟩ := List.getElem?_eq_some_iff.mp h
  exact List.drop_eq_getElem_cons hn
theorem atI_int {α : Type} {xs : List α} {i : Int} {v : α} (h0 : 0 ≤ i) (h : xs[i.toNat]? = some v) : atI xs i = some v := by
  have hl := (List.getElem?_eq_some_iff.mp h).1
  unfold atI ixN
  rw [if_pos h0, if_pos (by omega)]
  exact h
theorem cut_to {α : Type} {xs : List α} {i : Int} (h0 : 0 ≤ i) (h1 : i ≤ xs.length) : cut xs none (some i) = xs.take i.toNat := by
  unfold cut
  have e : (some i : Option Int) = some ((i.toNat : Nat) : Int) := by rw [Int.toNat_of_nonneg h0]
  rw [e, HT.sIx_nat, HT.sIx_none]
  have : min i.toNat xs.length = i.toNat := by omega
  rw [this]
  simp
theorem cut_from {α : Type} {xs : List α} {i : Int} (h0 : 0 ≤ i) (h1 : i ≤ xs.length) : cut xs (some i) none = xs.drop i.toNat := by
  unfold cut
  have e : (some i : Option Int) = some ((i.toNat : Nat) : Int) := by rw [Int.toNat_of_nonneg h0]
  rw [e, HT.sIx_nat, HT.sIx_none]
  have : min i.toNat xs.length = i.toNat := by omega
  rw [this]
  apply List.take_of_length_le
  rw [List.length_drop]
  omega
section
variable {K : PySem.W.Frag} {env : Env K} {os : Os} {ta tb te : TE}
theorem yld_r {lo : Int} {n : Nat} {g0 : Hp} {xs : List Int} (hx : ∀ k, k < n → xs[k]? = some (lo + k)) (hl : xs.length = n) : Yld (K := K) (Itr lo n) g0 xs :=
  ⟨fun k H hk _ => by rw [hl] at hk; exact hk, fun H _ => by rw [hl]; exact Nat.le_refl _, fun k g H x v H' e1 e2 hk hy => by
    obtain ⟨rfl, rfl⟩ := hy
    have hlt : k < n := by
      have := (List.getElem?_eq_some_iff.mp hk).1
      omega
    rw [hx k hlt] at hk
    cases hk
    exact ⟨g, Le.refl e2, rfl⟩⟩
theorem rng_get {i j : Int} {k : Nat} (h : k < (j - i).toNat) : (rng i j)[k]? = some (i + k) := by
  unfold rng
  rw [List.getElem?_map, List.getElem?_range h]
  rfl
theorem ei_rng2 {i j : Int} (ha : Ev ta env os i) (hb : Ev tb env os j) (h1 : -1000000000 ≤ i ∧ i ≤ 1000000000) (h2 : -1000000000 ≤ j ∧ j ≤ 1000000000) : EvI (iRng2 (tCons ta (tCons tb tNil))) env os (rng i j) := fun {b g h σ R} s q =>
  ha s fun v g1 h1' l1 r1 => hb (s.le l1) fun w g2 h2' l2 r2 => by
    cases r1; cases r2
    exact ⟨i, j, rfl, ⟨by omega, by omega, by omega, by omega⟩, q _ g2 h2' (l1.trans l2) (yld_r (fun k hk => rng_get hk) rng_len)⟩
theorem ei_rng1 {j : Int} (hb : Ev tb env os j) (h2 : -1000000000 ≤ j ∧ j ≤ 1000000000) : EvI (iRng1 (tCons tb tNil)) env os (rng 0 j) := fun {b g h σ R} s q =>
  hb s fun w g2 h2' l2 r2 => by
    cases r2
    exact ⟨j, rfl, by omega, by omega, q _ g2 h2' l2 (yld_r (fun k hk => by rw [rng_get (by omega)]) (by rw [rng_len]; omega))⟩
end
end Lw
/-! C(e, k1 = .., k2 = ..), the keywords in the order that is opposite to the parameters'. -/
namespace Lw
open PySem PySem.Spec PyProof.Rows L2 ClX
theorem vals_revL {xs : List V} {us : List Value} (h : Vals xs us) : Vals xs.reverse us.reverse := paired_rev h
abbrev gRev {α : Type} (us zs : List α) : List α := us ++ zs.reverse
section
variable {fa : List He.Fa} {fn : List He.DefD} {ex : PySem.W.Frag → Bool} {xs : List XD} {K : PySem.W.Frag} {mg : Str → Option Value} {P : Program} {w : World} {base : Heap}
theorem Fy.makK (E : Fy fa fn ex xs K mg) (i j jg n : Nat) {C q : Str} {st : Stmt} {ps ks : List Str} {dfl : List He.Dv} {k : Nat} {sp : Sp} (hi : fn[i]? = some ⟨(C, some "__init__"), "__init__", q, defArgs st, defBody st, defScope st, dfl, []⟩) (hj : fa[j]? = some (.mkr C)) (hg : fa[jg]? = some (.glo C)) (hd : dfl ≠ [])
    (hbi : ∀ (T : Addr) (kV doc pm : Value) (an : Option Addr) (cdv ct : Value) (us its ws : List Value), us.length = n + 1 → its.length = dfl.length → ws.length = ks.length →
      ∃ k, bindArgs (PySem.W.fnOf "__init__" q (defArgs st) (defBody st) (defScope st) (.ref T) kV doc pm an cdv ct) ⟨us, ks.zip ws⟩ = seqItems? (.ref T) >>= k ∧ k (some its.toArray) = pure (ps.zip (gRev us ws)))
    (hf : ∀ f fd, FunD K "__init__" q (defArgs st) (defBody st) (defScope st) (dfl.map (He.Dv.v K)) [] f fd → FnOk P w K mg base (L2N.CX P w) k f fd ps sp) : MakK P w K mg base C (He.ga K C) k n ps ks gRev sp := by
  obtain ⟨fd, F⟩ := E.f.d.def_ i hi
  have hl : (dfl.map (He.Dv.v K)).length = dfl.length := List.length_map _
  obtain ⟨its, hb⟩ := FunD.kbindsD (ps := ps) F (n + 1) ks (fun us _ zs => gRev us zs) (fun z => hd (List.map_eq_nil_iff.mp z)) (fun r1 _ r3 => paired_append r1 (vals_revL r3)) fun T kV doc pm an cdv ct us its ws l1 l2 l3 => hbi T kV doc pm an cdv ct us its ws l1 (by rw [l2]; exact hl) l3
  exact ⟨E.gref jg hg, _, fd, _, He.mkr_ok (E.f.d.fact j hj), hb, hf _ fd F⟩
end
section
variable {X : Cx} {C : Addr} {x : Str} {k n : Nat} {ps ks : List Str} {sp : Sp} {e : Expr} {es : List Expr} {kws : List Keyword} {t tk : TA} {p pos : Pos}
theorem pe_mkN {E : XK} {W : WX} (M : MakK X.prog X.w X.K X.mg X.base x C k n ps ks gRev sp) (hr : Room (k + 1) X.A) (tks : L2N.Takes X W) (hW : ∀ cls d σ H, E cls d H → W cls d σ H) (hg : Gl X x) (ha : PA X (e :: es) t) (hkw : PK X kws tk)
    (hall : (backToKw pos (keywordEach kws X.env)).all (·.1.isSome) = true := by rfl) (hks : (backToKw pos (keywordEach kws X.env)).filterMap (·.1) = ks := by rfl)
    (hdb : (x == ("__debug__" : Str)) = false := by decide) (he : starEach (e :: es) X.env = (false, eval e X.env) :: starEach es X.env := by rfl)
    (hpl : ((backTo pos (starEach (e :: es) X.env)).any (·.1) || (backToKw pos (keywordEach kws X.env)).any (·.1.isNone)) = false := by rfl) : PE X (.Call (.Name x p) (e :: es) kws pos) (tMakeN C n ks.length sp gRev E t tk) := by
  obtain ⟨f, fd, gU, hm, kb, F⟩ := M.ex
  exact pe_makeN hm F hr hg M.g kb (L2N.passes_call tks hW) ha hkw hall hks hdb he hpl
end
section
variable {K : PySem.W.Frag} {env : Env K} {os : Os} {t tk : TA} {α : Type} {b : Bs} {g h : Hp} {σ : L2.St} {C : Addr}
theorem args_rev {g : Hp} {vs : List V} {xs : List (Slot K)} (r : Args g vs xs) : Args g vs.reverse xs.reverse := by
  induction r with
  | nil => exact .nil
  | cons q _ ih => rw [List.reverse_cons, List.reverse_cons]; exact args_append ih (.cons q .nil)
theorem s_makeN {iα : Py K α} {A : List (Slot K) → Os → (Unit → Os → Prop) → (Addr → List (Str × Slot K) → Prop) → Prop} {xs ys : List (Slot K)} {E : XK} {Q : VK} {fs : α → List (Str × Slot K)} {PZ : α → Prop} {PE : Addr → List (Str × Slot K) → Prop} {n m : Nat}
    (hR : ∀ g v x, (∃ a dx ws, v = .ref a ∧ g a = some (.ins C dx ws) ∧ FsR g ws (fs x)) → iα.R g v x) (s : S0 b g h σ env os) (e : EvA t env os xs) (e2 : EvA tk env os ys) (l1 : xs.length = n) (l2 : ys.length = m) (hA : ∀ x dx, A (sv (V.ref x) :: (xs ++ ys.reverse)) [(x, Own.ins K C dx [])] (fun _ os' => ∃ z, PZ z ∧ os' = [(x, Own.ins K C dx (fs z))]) PE)
    (k : ∀ v z g' h', PZ z → S0 b g' h' σ env os → Same g g' → iα.R g' v z → Q v h') (kx : ∀ C' fs' d ws g' h', PE C' fs' → S0 b g' h' σ env os → h' d = none → FsR g' ws fs' → E (.ref C') (some d) (upd h' d (.xd ws))) : tMakeN C n m (SpX K A) gRev E t tk σ h Q :=
  e s fun vs g1 h1 le1 r1 => e2 (s.le le1) fun zs g2 h2 le2 r2 => ⟨by rw [args_len r1]; exact l1, by rw [args_len r2]; exact l2, fun x dx hx hdx hne => by
    have r3 : Args g2 (vs ++ zs.reverse) (xs ++ ys.reverse) := args_append (args_mono le2.gg r1) (args_rev r2)
    have := make_core (xs := xs ++ ys.reverse) (ds := []) (dvs := []) (vs := vs ++ zs.reverse) (E := E) (Q := Q) hR ((s.le le1).le le2) r3 (by rw [List.append_nil]; exact hA) (fun v z g' h' hz s' e' r => k v z g' h' hz s' ((le1.gg.trans le2.gg).trans e') r) (fun C' fs' d ws g' h' he s' _ hd' hf => kx C' fs' d ws g' h' he s' hd' hf) (fun _ => .nil) x dx hx hdx hne
    rw [List.append_nil] at this
    exact this⟩
end
section
variable {K : PySem.W.Frag} {env : Env K} {os : Os} {ta tb te : TE} {α : Type} [iα : Py K α] {b : Bs} {g h : Hp} {σ : L2.St} {i m : Nat} {l : Addr}
/-- an owned list kept from here on, as one made here; the caller's objects stand elsewhere in os -/
theorem S0.freezeSW {xs : List α} (s : S0 b g h σ env os) (hx : env[i]? = some (.val V inferInstance (V.ref l))) (ho : os[m]? = some (l, Own.lst K xs)) (n : Nat) (hb : b.ls = (os.take n).map (·.1)) (hn : n ≤ m) : ∃ g', S0 b g' h σ (env.set i (sv (SL.mk xs))) (os.eraseIdx m) :=
  s.freezeG (x := SL.mk xs) hx ho (fun z => by
    rw [hb] at z
    obtain ⟨p, hp, e⟩ := List.mem_map.mp z
    obtain ⟨k, hk⟩ := List.mem_iff_getElem?.mp hp
    have hkn : k < n := by
      have := (List.getElem?_eq_some_iff.mp hk).1
      rw [List.length_take] at this
      omega
    rw [List.getElem?_take_of_lt hkn] at hk
    have a1 : (os.map (·.1))[k]? = some l := by rw [List.getElem?_map, hk]; exact congrArg some e
    have a2 : (os.map (·.1))[m]? = some l := by rw [List.getElem?_map, ho]; rfl
    have := (List.getElem?_inj (by rw [List.length_map]; exact (List.getElem?_eq_some_iff.mp hk).1) s.nd).mp (a1.trans a2.symm)
    omega) fun g o hw g' e1 e2 => by
      obtain ⟨vs, rfl, p⟩ := hw
      exact ⟨l, vs, rfl, e2, pr_mono e1 p⟩
/-- an owned list against another list -/
theorem ev_neO {n : Nat} [d : PyD K α n] {xs ys : List α} {c : Bool} (hx : env[i]? = some (.val V inferInstance (V.ref l))) (ho : os[m]? = some (l, Own.lst K xs)) (hb : EvH tb env os ys) (hc : c = true ↔ xs = ys) (ox : ∀ x ∈ xs, d.ok x) (oy : ∀ x ∈ ys, d.ok x) (hd : n + 1 ≤ 64 := by decide) : Ev (tOp (rNeD K) (tVar i) tb) env os (!c) := fun {b g h σ Q} s q =>
  ev_var hx s fun v g1 h1 l1 r1 => hb (s.le l1) fun l2 ws g2 h2 le2 e2 p2 => by
    cases r1
    have s2 := (s.le l1).le le2
    obtain ⟨vs, e1, p1⟩ := own_seq s2 ho
    have e : PyData.eqv (.list (xs.map d.d)) (.list (ys.map d.d)) = c := by
      cases c with
      | true =>
        rw [hc.mp rfl]
        exact eq_all.mpr rfl
      | false =>
        cases q : PyData.eqv (.list (xs.map d.d)) (.list (ys.map d.d)) with
        | false => rfl
        | true => exact (hc.mpr (eq_all.mp q)).symm ▸ rfl
    refine ⟨_, _, .lst (SqL.of e1) (dp_all le2.gh p1), .lst (SqL.of e2) (dp_all le2.gh p2), ?_, ?_, by rw [e]; exact q _ _ _ (l1.trans le2) rfl⟩
    · exact shaped_of (K := K) (α := List α) (n := n + 1) (x := xs) ox hd
    · exact shaped_of (K := K) (α := List α) (n := n + 1) (x := ys) oy hd
end
end Lw
/-! Tuples of three; lists made here as data; texts or ints. -/
namespace Lw
open PySem PySem.Spec PyProof.Rows L2
structure Tri (α β γ : Type) where
  a : α
  b : β
  c : γ
section
variable {K : PySem.W.Frag} {α β γ : Type} [iα : Py K α] [iβ : Py K β] [iγ : Py K γ] {env : Env K} {os : Os} {ta tb tc te : TE}
instance instTri : Py K (Tri α β γ) := ⟨fun g v x => ∃ p u w z, v = .ref p ∧ g p = some (.tup [u, w, z]) ∧ iα.R g u x.a ∧ iβ.R g w x.b ∧ iγ.R g z x.c, fun {g g' v x} e ⟨p, u, w, z, h1, h2, h3, h4, h5⟩ => ⟨p, u, w, z, h1, e _ _ h2, iα.mono e h3, iβ.mono e h4, iγ.mono e h5⟩⟩
theorem ev_tri {x : α} {y : β} {z : γ} (ha : Ev ta env os x) (hb : Ev tb env os y) (hc : Ev tc env os z) : Ev (tTup (tCons ta (tCons tb (tCons tc tNil)))) env os (Tri.mk x y z) := fun {b g h σ Q} s q =>
  ha s fun v g1 h1 l1 r1 => hb (s.le l1) fun w g2 h2 l2 r2 => hc ((s.le l1).le l2) fun u g3 h3 l3 r3 => ⟨by simp; decide, fun p hp =>
    q _ (upd g3 p (.tup [v, w, u])) _ (((l1.trans l2).trans l3).trans (Le.laid l3.gh hp)) ⟨p, v, w, u, rfl, upd_same, iα.mono ((l2.gg.trans l3.gg).trans (Le.laid l3.gh hp).gg) r1, iβ.mono (l3.gg.trans (Le.laid l3.gh hp).gg) r2, iγ.mono (Le.laid l3.gh hp).gg r3⟩⟩
theorem ev_ixA {x : Tri α β γ} (ha : Ev ta env os x) : Ev (tOp (rIxT K) ta (tC (.int 0))) env os x.a := fun {b g h' σ Q} s q =>
  ha s fun v g1 h1 l1 r1 => by
    obtain ⟨a, u, w, z, rfl, h3, h4, h5, h6⟩ := r1
    exact ⟨a, [u, w, z], 0, u, rfl, rfl, same_tup l1.gh h3, rfl, q _ _ _ l1 h4⟩
theorem ev_ixB {x : Tri α β γ} (ha : Ev ta env os x) : Ev (tOp (rIxT K) ta (tC (.int 1))) env os x.b := fun {b g h' σ Q} s q =>
  ha s fun v g1 h1 l1 r1 => by
    obtain ⟨a, u, w, z, rfl, h3, h4, h5, h6⟩ := r1
    exact ⟨a, [u, w, z], 1, w, rfl, rfl, same_tup l1.gh h3, rfl, q _ _ _ l1 h5⟩
theorem ev_ixC {x : Tri α β γ} (ha : Ev ta env os x) : Ev (tOp (rIxT K) ta (tC (.int 2))) env os x.c := fun {b g h' σ Q} s q =>
  ha s fun v g1 h1 l1 r1 => by
    obtain ⟨a, u, w, z, rfl, h3, h4, h5, h6⟩ := r1
    exact ⟨a, [u, w, z], 2, z, rfl, rfl, same_tup l1.gh h3, rfl, q _ _ _ l1 h6⟩
theorem sl_eq {x y : SL α} : x.l = y.l ↔ x = y := by cases x; cases y; simp
instance {n : Nat} [d : PyD K α n] : PyD K (SL α) (n + 1) where
  d xs := .list (xs.l.map d.d)
  ok xs := ∀ x ∈ xs.l, d.ok x
  dp e r := by obtain ⟨a, vs, rfl, q, p⟩ := r; exact .lst (SqL.of (e _ _ q)) (dp_all e p)
  lay h := lay_all h
  deep xs := Nat.succ_le_succ deep_all
  eq := eq_all.trans sl_eq
instance {n m k : Nat} [d : PyD K α n] [e : PyD K β m] [f : PyD K γ k] : PyD K (Tri α β γ) (max n (max m k) + 1) where
  d x := .tuple [d.d x.a, e.d x.b, f.d x.c]
  ok x := d.ok x.a ∧ e.ok x.b ∧ f.ok x.c
  dp s r := by obtain ⟨a, u, w, z, rfl, q, p1, p2, p3⟩ := r; exact .tup (same_tup s q) (.cons (d.dp s p1) (.cons (e.dp s p2) (.cons (f.dp s p3) .nil)))
  lay {x} h := by
    show ((d.d x.a).canLay0 && ((e.d x.b).canLay0 && ((f.d x.c).canLay0 && true))) = true
    rw [d.lay h.1, e.lay h.2.1, f.lay h.2.2]; rfl
  deep x := by
    have h1 := d.deep x.a
    have h2 := e.deep x.b
    have h3 := f.deep x.c
    show max (d.d x.a).depth (max (e.d x.b).depth (max (f.d x.c).depth 0)) + 1 ≤ _
    omega
  eq {x y} := by
    show (PyData.eqv (d.d x.a) (d.d y.a) && (PyData.eqv (e.d x.b) (e.d y.b) && (PyData.eqv (f.d x.c) (f.d y.c) && true))) = true ↔ _
    rw [Bool.and_true, Bool.and_eq_true, Bool.and_eq_true, d.eq, e.eq, f.eq]
    cases x; cases y; simp
/-- a value of the one or of the other type -/
instance instSum : Py K (α ⊕ β) := ⟨fun g v x => match x with
  | .inl y => iα.R g v y
  | .inr y => iβ.R g v y, fun {g g' v x} e h => by
    cases x with
    | inl y => exact iα.mono e h
    | inr y => exact iβ.mono e h⟩
theorem ev_inl {x : α} (h : Ev te env os x) : Ev te env os (Sum.inl x : α ⊕ β) := fun {b g h' σ Q} s q => h s fun v g1 h1 l1 r1 => q v g1 h1 l1 r1
theorem ev_inr {x : β} (h : Ev te env os x) : Ev te env os (Sum.inr x : α ⊕ β) := fun {b g h' σ Q} s q => h s fun v g1 h1 l1 r1 => q v g1 h1 l1 r1
theorem ev_unl {x : α} (h : Ev te env os (Sum.inl x : α ⊕ β)) : Ev te env os x := fun {b g h' σ Q} s q => h s fun v g1 h1 l1 r1 => q v g1 h1 l1 r1
theorem ev_unr {x : β} (h : Ev te env os (Sum.inr x : α ⊕ β)) : Ev te env os x := fun {b g h' σ Q} s q => h s fun v g1 h1 l1 r1 => q v g1 h1 l1 r1
end
end Lw
/-! try with several clauses that each keep the error under one name; isinstance of a kept error. -/
namespace Lw
open PySem PySem.Spec PyProof.Rows L2
abbrev Cl := Value × (Addr → Value → Option Addr → TS)
/-- where the clauses' name is gone again -/
def gone (i : Nat) (D : Ends) : Ends := { nx := fun σ' H' => D.nx (σ'.set i none) H', rt := D.rt, bk := fun σ' H' => D.bk (σ'.set i none) H', ct := fun σ' H' => D.ct (σ'.set i none) H' }
/-- what the clauses wish of an error, one after the other -/
def wCls (K : PySem.W.Frag) (i : Nat) (Wout : WX) (D : Ends) : List Cl → WX
  | [] => Wout
  | (c, ts) :: r => fun cls d σ H => ∃ b, PySem.W.exmOne K cls c = some b ∧ (b = true → ∀ a, H a = none → ts a cls d (gone i D) (σ.set i (some (.ref a))) H) ∧ (b = false → wCls K i Wout D r cls d σ H)
/-- the clauses, and how each suite is read -/
inductive Clauses (X : Cx) (n : Str) : List ExceptHandler → List Cl → Prop
  | nil : Clauses X n [] []
  | cons {x : Str} {c : Value} {ts : Addr → Value → Option Addr → TS} {b₀ : Stmt} {suite : List Stmt} {np pos' : Pos} {hds : List ExceptHandler} {l : List Cl} (hc : Names X x c)
      (hsu : ∀ (a : Addr) (oe : Obj) (cls : Value) (d : Option Addr) (pn : List (Addr × Obj)), L2N.Zn cls d oe → (∃ vs, oe.data = .fields vs) → PSs (X.suite a ((a, oe) :: pn)) (b₀ :: suite) (ts a cls d)) (r : Clauses X n hds l) :
      Clauses X n (.ExceptHandler (some (.Name x np)) (some n) (b₀ :: suite) pos' :: hds) ((c, ts) :: l)
section
variable {X : Cx} {n : Str} {i : Nat} {body : List Stmt} {h₀ : ExceptHandler} {hds : List ExceptHandler} {l : List Cl} {pos : Pos} {tb : WX → TS} {Wout : WX}
theorem ps_try_cls (hs : X.stack = X.env :: X.outer) (hf : X.env.frame = some X.env.locals) (hN : X.N.Nodup) (hi : X.N[i]? = some n) (hln : X.env.kindOf n = some .local) (tk : L2N.Takes X Wout)
    (hb : ∀ (W : WX) (pn : List (Addr × Obj)) (xe : Value → Shared → Prop), L2N.Takes (X.tr pn xe) W → PassesOwn (model X.prog X.w) X.A X.env xe → PSs (X.tr pn xe) body (tb W))
    (hh : Clauses X n (h₀ :: hds) l) : PS X (.Try body (h₀ :: hds) [] [] pos) (fun D σ H => tb (wCls X.K i Wout D l) D σ H) := by
  refine ⟨fun pins s σ H D I h => ?_⟩
  have ok := I.ok
  have hfr : X.A.frames = some (X.env :: X.outer) := by rw [ok.frames, hs]
  have hloc : Loc X.env.scope n := .inl hln
  refine wpAny_Try_except ?_
  refine wpAny_mono ((hb (wCls X.K i Wout D l) (X.pn ++ pins) (fun e s₁ => wpAny (model X.prog X.w) X.A (noteFrame e X.env) (fun _ s₂ => wpAny (model X.prog X.w) X.A (setFlight e none) (fun _ s₃ =>
    wpAny (model X.prog X.w) X.A (handleBy e X.env (h₀ :: hds)) (SP X pins D) X.xe s₃) X.xe s₂) X.xe s₁) (fun u s' xx => ?_) PassesOwn.looking).run [] s σ H D (I.toTry _) h) (fun f s1 hsp => ?_) (fun e s1 he => he)
  rotate_left
  · cases f with
    | next =>
      obtain ⟨σ', H', J', q⟩ := hsp
      exact wpAny_execs_nil ⟨σ', H', J'.ofTry ok, q⟩
    | brk =>
      obtain ⟨σ', H', J', q⟩ := hsp
      exact ⟨σ', H', J'.ofTry ok, q⟩
    | cont =>
      obtain ⟨σ', H', J', q⟩ := hsp
      exact ⟨σ', H', J'.ofTry ok, q⟩
    | ret u =>
      obtain ⟨v, σ', H', J', r, q⟩ := hsp
      exact ⟨v, σ', H', J'.ofTry ok, r, q⟩
  obtain ⟨a, B, sI, pins', σ', H', cls, d, rfl, J', nb, up, sky, na, os, ag, w⟩ := xx
  have J : Inv X pins σ' H' sI := J'.ofTry ok
  show wpAny (model X.prog X.w) X.A (noteFrame (.ref a) X.env) _ _ _
  refine L2N.Sky.land L2N.Zn.steady hfr hf (by rw [← hs]; exact sky) fun h3 fl3 up3 => ?_
  have J3 : Inv X pins σ' H' { s' with heap := h3 } := J.landed nb fl3.1 (up.trans up3) os ag
  obtain ⟨oe3, vs3, he3, hz3, hd3⟩ := fl3.there
  have nfr : a ∉ frs (X.env :: X.outer) := fun hm => by
    obtain ⟨_, o', e', hnf⟩ := fl3.2.2.1.mem hm
    rw [he3] at e'; cases e'
    exact hnf _ hd3
  have nL : a ≠ X.env.locals := fun z => nfr (List.mem_filterMap.mpr ⟨X.env, List.mem_cons_self, by rw [hf, z]⟩)
  have nF : a ∉ X.fs := fun hm => by
    obtain ⟨e, he, q⟩ := List.mem_filterMap.mp hm
    exact nfr (List.mem_filterMap.mpr ⟨e, List.mem_cons_of_mem _ he, q⟩)
  have S3 := J3.suite he3 hd3 na nL nF
  have LT : PySem.W.Looks (model X.prog X.w) h3 (typeOf (.ref a)) cls := fun A Q E s k q => wpAny_typeOf_ref (k _ _ he3) (by rw [hz3.1]; exact q)
  suffices go : ∀ {hds' : List ExceptHandler} {l' : List Cl}, Clauses X n hds' l' → wCls X.K i Wout D l' cls d σ' H' → wpAny (model X.prog X.w) X.A (handleBy (.ref a) X.env hds') (SP X pins D) X.xe { s' with heap := h3 } from go hh w
  intro hds' l' hk
  induction hk with
  | nil =>
    intro w
    refine wpAny_handleBy_nil ?_
    obtain ⟨k1, k2, k3, oe, vs, T, oT, ts', he, hz, hd, h1, hr⟩ := id fl3
    unfold PySem.passOn
    refine wpAny_bind (wpAny_field he hd h1 ?_)
    rw [if_neg (show ¬ ((Value.ref T == Value.none) = true) from by simp)]
    have fin : wpAny (model X.prog X.w) X.A (setFlight (.ref a) X.env.frame) (fun _ s4 => wpAny (model X.prog X.w) X.A (throw (.ref a) : Sem Flow) (SP X pins D) X.xe s4) X.xe { s' with heap := h3 } := by
      rw [hf]
      refine HandSPX.setFlight_upZ fl3 fun h4 hh4 up4 => wpAny_throw (tk _ _ ?_)
      exact ⟨a, B, sI, pins, σ', H', cls, d, rfl, J, nb, (up.trans up3).trans up4, .inr (.inr (by rw [hs]; exact hh4)), na, os, ag, w⟩
    first
      | exact wpAny_bind (wpAny_pure (wpAny_bind fin))
      | exact wpAny_bind fin
  | @cons x c ts b₀ suite np pos' hds2 l2 hc hsu r ih =>
    intro w
    obtain ⟨b, hb1, hyes, hno⟩ := w
    have LM := PySem.W.exm_one (M := model X.prog X.w) (J3.kIn) LT hb1
    have test : ∀ {Q : Value → Shared → Prop} {E : Value → Shared → Prop}, Q c { s' with heap := h3 } → wpAny (model X.prog X.w) (X.A.mark (some (.ref a))) (eval (.Name x np) X.env) Q E { s' with heap := h3 } := fun {Q E} q => by
      obtain ⟨hg, hdbg, hm | ⟨hm, hv, hnn⟩⟩ := hc
      · exact ld_glob (X := X.suite a ((a, oe3) :: (X.pn ++ pins))) S3 hg hm q hdbg
      · exact ld_blt (X := X.suite a ((a, oe3) :: (X.pn ++ pins))) S3 hg hm hv q hnn hdbg
    refine wpAny_handleBy_cons (codeAny_handlers_test ?_) (by intro q; cases q)
    refine test (LM.here ?_)
    cases b with
    | false =>
      show wpAny _ X.A (handleBy (.ref a) X.env hds2) _ _ _
      exact ih (hno rfl)
    | true =>
      refine codeAny_handlers_suite_as ?_
      refine HandSPX.lands_againZ fl3 fun h4 fl4 up4 => ?_
      have J4 : Inv X pins σ' H' { s' with heap := h4 } := J.landed nb fl4.1 ((up.trans up3).trans up4) os ag
      obtain ⟨oe4, vs4, he4, hz4, hd4⟩ := fl4.there
      have S4 := J4.suite he4 hd4 na nL nF
      refine store_ok (X := X.suite a ((a, oe4) :: (X.pn ++ pins))) (v := .ref a) S4 hN hi hloc rfl (fun s5 S5 => ?_) (.inr hln)
      refine wpAny_mono ((hsu a oe4 cls d (X.pn ++ pins) hz4 ⟨_, hd4⟩).run [] s5 _ H' _ S5 (hyes rfl a na)) (fun f s6 hsp => ?_) (fun _ _ z => False.elim z)
      have end_ : ∀ {σ6 : L2.St} {H6 : Hp} {Q : Shared → Prop}, Inv (X.suite a ((a, oe4) :: (X.pn ++ pins))) [] σ6 H6 s6 → (∀ s7, Inv X pins (σ6.set i none) H6 s7 → Q s7) →
          wpAny (model X.prog X.w) X.A (do bindName X.env n .none; unbindBehindTheSuite X.env n pos') (fun _ s7 => Q s7) X.xe s6 := fun {σ6 H6 Q} S6 hq => gone_ok (S6.unsuite ok) hN hi hln hq
      cases f with
      | next =>
        obtain ⟨σ6, H6, S6, q6⟩ := hsp
        exact end_ S6 fun s7 J7 => ⟨_, _, J7, q6⟩
      | brk =>
        obtain ⟨σ6, H6, S6, q6⟩ := hsp
        exact end_ S6 fun s7 J7 => ⟨_, _, J7, q6⟩
      | cont =>
        obtain ⟨σ6, H6, S6, q6⟩ := hsp
        exact end_ S6 fun s7 J7 => ⟨_, _, J7, q6⟩
      | ret u =>
        obtain ⟨v6, σ6, H6, S6, r6, q6⟩ := hsp
        exact end_ S6 fun s7 J7 => ⟨_, _, _, J7, r6, q6⟩
end
/-! isinstance of the kept error -/
structure XIs (K : PySem.W.Frag) (C : Addr) : Prop where
  cl : (PySem.W.clsIn K C).isSome = true
  ga : PySem.W.findIn K (.ref C) "__getattribute__" = some (some (.builtin "BaseException.__getattribute__"))
  gt : PySem.W.findIn K (.ref C) "__getattr__" = some none
  sb : PySem.W.subIn K (.ref C) (.type "BaseException") = some true
  fc : PySem.W.findIn K (.ref C) "__class__" = some (some (.builtin "object.__class__"))
  sp : PySem.W.specialIn K (.builtin "object.__class__") "__get__" = some (some (.builtin "getset_descriptor.__get__"))
  tk : PySem.W.takesIn K (.builtin "object.__class__") = some true
  mr : PySem.W.mroIn K C (.type "object") = some true
theorem xisB_ok {K : PySem.W.Frag} {C : Addr} (h : xisB K C = true) : XIs K C := by
  unfold xisB at h
  simp only [Bool.and_eq_true, decide_eq_true_iff] at h
  obtain ⟨h1, h2, h3, h4, h5, h6, h7, h8⟩ := h
  exact ⟨h1, h2, h3, h4, h5, h6, h7, h8⟩
def rXis (K : PySem.W.Frag) (a : Addr) (cls : Value) (d : Option Addr) : List V → Hp → VK → Prop := fun xs H Q => ∃ (C dd : Addr) (c : V) (cv : Value) (b : Bool) (fs : List (Str × V)), cls = .ref C ∧ d = some dd ∧ xs = [.ref a, c] ∧ ClsV c cv ∧ XIs K C ∧ H dd = some (.xd fs) ∧ PySem.W.kitOne K (.ref C) cv = some b ∧ Q (.bl b) H
def rXisT (K : PySem.W.Frag) (a : Addr) (cls : Value) (d : Option Addr) : List V → Hp → VK → Prop := fun xs H Q => ∃ (C dd tp : Addr) (cs : List V) (us : List Value) (b : Bool) (fs : List (Str × V)), cls = .ref C ∧ d = some dd ∧ xs = [.ref a, .ref tp] ∧ H tp = some (.tup cs) ∧ Paired ClsV cs us ∧ XIs K C ∧ H dd = some (.xd fs) ∧ PySem.W.kitAny K (.ref C) us = some b ∧ Q (.bl b) H
section
variable {X : Cx} {a : Addr} {oe : Obj} {cls : Value} {d : Option Addr} {pn : List (Addr × Obj)} {K : PySem.W.Frag}
theorem xis_at {C dd : Addr} {pins : List (Addr × Obj)} {σ : L2.St} {H : Hp} {s : Shared} {fs : List (Str × V)} (I : Inv (X.suite a ((a, oe) :: pn)) pins σ H s) (hz : L2N.Zn (.ref C) (some dd) oe) (hf : ∃ vs, oe.data = .fields vs) (hd : H dd = some (.xd fs)) : ∃ od, PySem.W.InstAt s.heap a oe C (some od) := by
  obtain ⟨ha, _⟩ := I.pin (a, oe) (List.mem_append_left _ List.mem_cons_self)
  obtain ⟨vs, hv⟩ := hf
  have hx : ObjOk X.prog X.w H s.heap dd (.xd fs) := I.hok dd _ hd
  obtain ⟨mA, hns, hr⟩ := hx
  obtain ⟨od, ho, hl⟩ := lookIn_ns hns
  exact ⟨od, ha, hz.1, by unfold PySem.W.notCls; rw [hv] <;> rfl, by rw [hz.2.1]; exact ho⟩
theorem cr_xis (hz : L2N.Zn cls d oe) (hf : ∃ vs, oe.data = .fields vs) (h : X.K = K := by rfl) : CallR (X.suite a ((a, oe) :: pn)) (.builtin "isinstance") (rXis K a cls d) := by
  subst h
  intro pins s σ H xs us Q I r h
  obtain ⟨C, dd, c, cv, b, fs, rfl, rfl, rfl, k, x, hd, e, q⟩ := h
  obtain ⟨u1, u2, rfl, r1, r2⟩ := vals2 r
  have e2 := k.eq r2
  subst e2
  cases (show u1 = Value.ref a from r1)
  obtain ⟨od, J⟩ := xis_at I hz hf hd
  exact PySem.W.kia_one (PySem.W.kitx_exc x.cl x.ga x.gt x.sb x.fc x.sp x.tk x.mr) I.kIn J e (fun z => nomatch z) fun tk => ⟨.bl b, H, I.tok tk, rfl, q⟩
theorem cr_xisT (hz : L2N.Zn cls d oe) (hf : ∃ vs, oe.data = .fields vs) (h : X.K = K := by rfl) : CallR (X.suite a ((a, oe) :: pn)) (.builtin "isinstance") (rXisT K a cls d) := by
  subst h
  intro pins s σ H xs us Q I r h
  obtain ⟨C, dd, tp, cs, ws, b, fs, rfl, rfl, rfl, hT, k, x, hd, e, q⟩ := h
  obtain ⟨u1, u2, rfl, r1, r2⟩ := vals2 r
  cases (show u2 = Value.ref tp from r2)
  cases (show u1 = Value.ref a from r1)
  obtain ⟨od, J⟩ := xis_at I hz hf hd
  obtain ⟨_, its, rv, o, h1, h2, n, h3⟩ := (show ObjOk X.prog X.w H s.heap tp (.tup cs) from I.hok tp _ hT)
  have e3 := ClsV.all k rv
  subst e3
  obtain ⟨oc, od', dt, sl⟩ := o
  simp only at h2 h3
  subst h2 h3
  exact PySem.W.kia_tup (PySem.W.kitx_exc x.cl x.ga x.gt x.sb x.fc x.sp x.tk x.mr) I.kIn J h1 e (fun z => nomatch z) fun tk => ⟨.bl b, H, I.tok tk, rfl, q⟩
end
section
variable {K : PySem.W.Frag} {env : Env K} {os : Os} {i : Nat}
theorem ev_xis {fs : List (Str × Slot K)} {x : Xcp fs} {D : Addr} {b : Bool} (hx : env[i]? = some (sv x)) (k : XIs K x.C) (e : PySem.W.kitOne K (.ref x.C) (.ref D) = some b) : Ev (tCB (rXis K x.a (.ref x.C) (some x.d)) (tCons (tVar i) (tCons (tC (.ref D)) tNil))) env os b := fun {b' g h σ Q} s q =>
  ev_var hx s fun v g1 h1 l1 r1 => by
    obtain ⟨rfl, ws, hd, p⟩ := r1
    exact ⟨x.C, x.d, .ref D, .ref D, b, ws, rfl, rfl, rfl, .own D, k, l1.gh _ _ hd, e, q _ g1 h1 l1 rfl⟩
theorem ev_xisTy {fs : List (Str × Slot K)} {x : Xcp fs} {T : String} {b : Bool} (hx : env[i]? = some (sv x)) (k : XIs K x.C) (e : PySem.W.kitOne K (.ref x.C) (.type T) = some b) : Ev (tCB (rXis K x.a (.ref x.C) (some x.d)) (tCons (tVar i) (tCons (tC (.ty T)) tNil))) env os b := fun {b' g h σ Q} s q =>
  ev_var hx s fun v g1 h1 l1 r1 => by
    obtain ⟨rfl, ws, hd, p⟩ := r1
    exact ⟨x.C, x.d, .ty T, .type T, b, ws, rfl, rfl, rfl, .ty T, k, l1.gh _ _ hd, e, q _ g1 h1 l1 rfl⟩
/-- class objects, one after the other -/
def tRefs : List Addr → TA
  | [] => tNil
  | D :: r => tCons (tC (.ref D)) (tRefs r)
theorem refs_at {σ : L2.St} {h : Hp} : ∀ {Ds : List Addr} {Q : List V → Hp → Prop}, Q (Ds.map V.ref) h → tRefs Ds σ h Q
  | [], _, q => q
  | _ :: r, _, q => refs_at (Ds := r) q
theorem refs_cls : ∀ {Ds : List Addr}, Paired ClsV (Ds.map V.ref) (Ds.map Value.ref)
  | [] => .nil
  | D :: r => .cons (.own D) refs_cls
theorem ev_xisT {fs : List (Str × Slot K)} {x : Xcp fs} {Ds : List Addr} {b : Bool} (hx : env[i]? = some (sv x)) (k : XIs K x.C) (hl : Ds.length ≤ 64) (e : PySem.W.kitAny K (.ref x.C) (Ds.map Value.ref) = some b) : Ev (tCB (rXisT K x.a (.ref x.C) (some x.d)) (tCons (tVar i) (tCons (tTup (tRefs Ds)) tNil))) env os b := fun {b' g h σ Q} s q => by
    show tVar i σ h fun y H1 => tTup (tRefs Ds) σ H1 fun z H2 => rXisT K x.a (.ref x.C) (some x.d) [y, z] H2 Q
    refine ev_var hx s fun v g1 h1 l1 r1 => ?_
    obtain ⟨rfl, ws, hd, p⟩ := r1
    refine refs_at ⟨?_, fun tp hp => ?_⟩
    · have h64 : (64 : Nat) ≤ sizeLine := by rw [sizeLine_eq]; decide
      rw [List.length_map]
      exact Nat.le_trans hl h64
    · have le := Le.laid (s.le l1).gh hp (o := .tup (Ds.map V.ref))
      exact ⟨x.C, x.d, tp, _, _, b, ws, rfl, rfl, rfl, upd_same, refs_cls, k, le.gh _ _ (le.gg _ _ hd), e, q _ _ _ (l1.trans le) rfl⟩
end
section
variable {K : PySem.W.Frag} {γ : Type} [iγ : Py K γ] {env : Env K} {os : Os} {b : Bs} {g h : Hp} {σ : L2.St} {D : Ends} {i : Nat} {c1 c2 c3 : Value} {t1 t2 t3 : Addr → Value → Option Addr → TS} {Wout : WX}
/-- try: f(..) (the answer dropped), three clauses -/
theorem st_try3 {A : List (Slot K) → (γ → Prop) → (Addr → List (Str × Slot K) → Prop) → Prop} {P : γ → Prop} {PE : Addr → List (Str × Slot K) → Prop} {xs : List (Slot K)} {ta : TA}
    (s : S0 b g h σ env os) (e : EvA ta env os xs) (hA : A xs P PE) (k : ∀ z, P z → ∀ g' h', S0 b g' h' σ env os → D.nx σ h')
    (kx : ∀ C fs (a d : Addr) g' h', PE C fs → S0 b g' h' (σ.set i (some (.ref a))) (env.set i (sv (Xcp.mk (fs := fs) a d C))) os →
      (PySem.W.exmOne K (.ref C) c1 = some true ∧ t1 a (.ref C) (some d) (gone i D) (σ.set i (some (.ref a))) h') ∨
      (PySem.W.exmOne K (.ref C) c1 = some false ∧ PySem.W.exmOne K (.ref C) c2 = some true ∧ t2 a (.ref C) (some d) (gone i D) (σ.set i (some (.ref a))) h') ∨
      (PySem.W.exmOne K (.ref C) c1 = some false ∧ PySem.W.exmOne K (.ref C) c2 = some false ∧ PySem.W.exmOne K (.ref C) c3 = some true ∧ t3 a (.ref C) (some d) (gone i D) (σ.set i (some (.ref a))) h')) :
    tDrop (tCallS (SpE K A) (WE (wCls K i Wout D [(c1, t1), (c2, t2), (c3, t3)])) ta) D σ h :=
  sE_callS s e hA (fun v z g' h' hz s' _ _ => k z hz g' h' s') fun C fs d ws g' h' he s' hd hf => by
    have le := Le.laid s'.gh hd (o := .xd ws)
    have kk := fun a => kx C fs a d _ _ he ((s'.le le).set (i := i) (v := .ref a) (t := sv (Xcp.mk (fs := fs) a d C)) ⟨_, rfl, rfl, ws, upd_same, fsr_mono le.gg hf⟩)
    have key : ∀ {B : Prop} {x y : Option Bool}, x = some true → y = some false → x = y → B := fun h1 h2 h3 => by rw [h1, h2] at h3; cases h3
    show wCls K i Wout D [(c1, t1), (c2, t2), (c3, t3)] (.ref C) (some d) σ _
    rcases kk d with ⟨q1, _⟩ | ⟨q1, q2, _⟩ | ⟨q1, q2, q3, _⟩
    · refine ⟨true, q1, fun _ a ha => ?_, fun z => nomatch z⟩
      rcases kk a with ⟨_, r⟩ | ⟨r1, _⟩ | ⟨r1, _⟩
      · exact r
      · exact key q1 r1 rfl
      · exact key q1 r1 rfl
    · refine ⟨false, q1, fun z => (nomatch z), fun _ => ⟨true, q2, fun _ a ha => ?_, fun z => nomatch z⟩⟩
      rcases kk a with ⟨r1, _⟩ | ⟨_, _, r⟩ | ⟨_, r2, _⟩
      · exact key r1 q1 rfl
      · exact r
      · exact key q2 r2 rfl
    · refine ⟨false, q1, fun z => (nomatch z), fun _ => ⟨false, q2, fun z => (nomatch z), fun _ => ⟨true, q3, fun _ a ha => ?_, fun z => nomatch z⟩⟩⟩
      rcases kk a with ⟨r1, _⟩ | ⟨_, r2, _⟩ | ⟨_, _, _, r⟩
      · exact key r1 q1 rfl
      · exact key r2 q2 rfl
      · exact r
end
/-! what K says of the errors of a calendar -/
end Lw
/-! Expressions after which a token is out; e.replace(..) in a statement behind them. -/
namespace Lw
open PySem PySem.Spec PyProof.Rows L2
section
variable {X : Cx}
def PE1 (X : Cx) (e : Expr) (t : TE) : Prop :=
  ∀ (pins : List (Addr × Obj)) (s : Shared) (σ : L2.St) (H : Hp) (Q : VK), Inv X pins σ H s → t σ H Q → wpAny (model X.prog X.w) X.A (eval e X.env) (fun v s1 => 1 ≤ s1.toks ∧ EP X pins σ Q v s1) X.xe s
def PA1 (X : Cx) (es : List Expr) (t : TA) : Prop :=
  ∀ (pos : Pos) (pins : List (Addr × Obj)) (s : Shared) (σ : L2.St) (H : Hp) (Q : List V → Hp → Prop), Inv X pins σ H s → t σ H Q → wpAny (model X.prog X.w) X.A (spliced (backTo pos (starEach es X.env))) (fun v s1 => 1 ≤ s1.toks ∧ AP X pins σ Q v s1) X.xe s
theorem keep1 {α : Type} {M : Model} {A : Around} {t : Sem α} {Q : α → Shared → Prop} {E : Value → Shared → Prop} {s : Shared} (h1 : 1 ≤ s.toks) (h : wpAny M A t Q E s) : wpAny M A t (fun a s' => 1 ≤ s'.toks ∧ Q a s') E s :=
  wpAny_mono (PySem.wpAny_toks_of h1 h) (fun _ _ q => q) fun _ _ q => q.2
theorem pe1_int {i : Int} {j : Nat} {pos : Pos} : PE1 X (.Constant (.int i) j pos) (tC (.int i)) := fun _ s _ H _ I h => wpAny_Constant_int ⟨Nat.le_add_left 1 s.toks, .int i, H, I.tok _, ⟨_, rfl⟩, h⟩
theorem pa1_head {e : Expr} {es : List Expr} {te : TE} {t : TA} (ha : PE1 X e te) (hr : PA X es t) (hs : starEach (e :: es) X.env = (false, eval e X.env) :: starEach es X.env := by rfl) : PA1 X (e :: es) (tCons te t) := by
  intro pos pins s σ H Q I h
  rw [hs]
  show wpAny _ _ (spliced ((false, eval e X.env) :: backTo pos (starEach es X.env))) _ _ s
  refine Calls.spliced_cons (thn (ha pins s σ H _ I h) fun u s1 ⟨k1, x, H1, I1, r1, q1⟩ => ?_)
  exact thn (keep1 k1 (hr.run pos pins s1 σ H1 _ I1 q1)) fun us s2 ⟨k2, xs, H2, I2, r2, q2⟩ => ⟨k2, x :: xs, H2, I2, .cons r1 r2, q2⟩
theorem pa1_tail {e : Expr} {es : List Expr} {te : TE} {t : TA} (ha : PE X e te) (hr : PA1 X es t) (hs : starEach (e :: es) X.env = (false, eval e X.env) :: starEach es X.env := by rfl) : PA1 X (e :: es) (tCons te t) := by
  intro pos pins s σ H Q I h
  rw [hs]
  show wpAny _ _ (spliced ((false, eval e X.env) :: backTo pos (starEach es X.env))) _ _ s
  refine Calls.spliced_cons (thn (ha.run pins s σ H _ I h) fun u s1 ⟨x, H1, I1, r1, q1⟩ => ?_)
  exact thn (hr pos pins s1 σ H1 _ I1 q1) fun us s2 ⟨k2, xs, H2, I2, r2, q2⟩ => ⟨k2, x :: xs, H2, I2, .cons r1 r2, q2⟩
theorem pe1_c {x : Str} {k : Nat} {ps : List Str} {sp : Sp} {e : Expr} {es : List Expr} {p pos : Pos} {t : TA} (C : Cal X.prog X.w X.K X.mg X.base x k ps sp) (hr : Room k X.A) (hg : Gl X x) (ha : PA1 X (e :: es) t) (hdb : (x == ("__debug__" : Str)) = false := by decide)
    (he : starEach (e :: es) X.env = (false, eval e X.env) :: starEach es X.env := by rfl) (hpl : (backTo pos (starEach es X.env)).any (·.1) = false := by rfl) : PE1 X (.Call (.Name x p) (e :: es) [] pos) (tCall sp [] E0 t) := by
  obtain ⟨f, fd, gm, kp, bi, ok⟩ := C
  intro pins s σ H Q I h
  refine wpAny_Call_Name_kw (ld_glob I hg gm ?_ hdb)
  refine PySem.W.callWith_K (h₀ := X.base) I.ok.mod.kin kp (thn (ha pos pins s σ H _ I h) fun us s1 ⟨k1, vs, H1, I1, r, q⟩ => ⟨I1.kIn, ?_⟩) he hpl
  exact keep1 k1 (run_fn ok hr bi .nil pass0 I1 r q)
/-- x = e, and behind it a token is out -/
theorem pss_set1 {i : Nat} {x : Str} {e : Expr} {te : TE} {u : TS} {rest : List Stmt} {pos' pos : Pos} (hN : X.N.Nodup) (hi : X.N[i]? = some x) (hx : Loc X.env.scope x) (he : PE1 X e te) (h2 : PSsT X rest u)
    (hs : swapsWith e (some (.Name x pos')) pos.line X.env = pure false := by rfl) (hf : X.fn x = true ∨ X.env.scope.names.lookup x = some .local := by first | exact .inl rfl | exact .inr rfl | assumption) : PSs X (.Assign [.Name x pos'] e pos :: rest) (tSeq (tAsg te (gName i)) u) := by
  refine ⟨fun pins s σ H D I h => ?_⟩
  refine wpAny_execs_cons (wpAny_Assign_Name (thn (he pins s σ H _ I h) fun v s1 ⟨k1, y, H1, I1, r1, q1⟩ => ?_) hs)
  refine thn (keep1 k1 (store_ok (v := y) (Q := fun _ s2 => Inv X pins (σ.set i (some y)) H1 s2) I1 hN hi hx r1 (fun _ I2 => I2) hf)) fun _ s2 q => ?_
  exact h2 pins s2 _ H1 D q.1 q.2 q1
theorem pst_set {i : Nat} {x : Str} {e : Expr} {te : TE} {pos' pos : Pos} (hN : X.N.Nodup) (hi : X.N[i]? = some x) (hx : Loc X.env.scope x) (he : PET X e te)
    (hs : swapsWith e (some (.Name x pos')) pos.line X.env = pure false := by rfl) (hf : X.fn x = true ∨ X.env.scope.names.lookup x = some .local := by first | exact .inl rfl | exact .inr rfl | assumption) : PST X (.Assign [.Name x pos'] e pos) (tAsg te (gName i)) := by
  intro pins s σ H D h0 I h
  refine wpAny_Assign_Name (thn (he pins s σ H _ h0 I h) fun v s1 ⟨y, H1, I1, r1, q1⟩ => ?_) hs
  exact store_ok I1 hN hi hx r1 (fun s2 I2 => ⟨_, H1, I2, q1⟩) hf
end
/-! one sign for another -/
def swapC (c d : Nat) : Nat → Nat := fun k => if k = c then d else k
theorem swap_free {c d : Nat} {l : List Nat} (h : c ∉ l) : l.map (swapC c d) = l := by
  induction l with
  | nil => rfl
  | cons k r ih =>
    rw [List.map_cons, ih fun z => h (List.mem_cons_of_mem _ z)]
    unfold swapC
    rw [if_neg fun z => h (by rw [z]; exact List.mem_cons_self)]
theorem swap_join (c d : Nat) : ∀ parts : List Str, (∀ p ∈ parts, c ∉ p.cps.toList) → (Str.join ⟨#[c]⟩ parts).cps.toList.map (swapC c d) = (Str.join ⟨#[d]⟩ parts).cps.toList
  | [], _ => rfl
  | [p], h => swap_free (h p (List.mem_singleton.mpr rfl))
  | p :: q :: r, h => by
    have ih := swap_join c d (q :: r) fun a ha => h a (List.mem_cons_of_mem _ ha)
    show (p ++ ⟨#[c]⟩ ++ Str.join ⟨#[c]⟩ (q :: r)).cps.toList.map (swapC c d) = (p ++ ⟨#[d]⟩ ++ Str.join ⟨#[d]⟩ (q :: r)).cps.toList
    simp only [Str.cps_append, Array.toList_append]
    rw [List.map_append, List.map_append, ih, swap_free (h p (List.mem_cons_self ..))]
    have : List.map (swapC c d) [c] = [d] := by unfold swapC; simp
    rw [this]
theorem replace_swap (x : Str) (c d : Nat) : (Txt.replace x ⟨#[c]⟩ ⟨#[d]⟩).cps.toList = x.cps.toList.map (swapC c d) := by
  rw [PySem.StrLaws.replace_one, ← swap_join c d _ (PySem.StrLaws.split_free x c), PySem.StrLaws.join_split]
section
variable {K : PySem.W.Frag} {env : Env K} {os : Os} {te : TE}
theorem ev_replG {x : Sg} {y z : Str} {c d : Nat} (ha : Ev te env os x) (hl : x.l.length ≤ 1000000) (hy : y = ⟨#[c]⟩ := by rfl) (hz : z = ⟨#[d]⟩ := by rfl) : Ev (CwR.tReplC te y z) env os (Sg.mk (x.l.map (swapC c d))) := fun {b g h σ Q} s q =>
  ha s fun v g1 h1 l1 r1 => by
    subst hy; subst hz
    refine ⟨x.s, r1, ?_, q _ g1 h1 l1 ?_⟩
    · have e : x.s.length = x.l.length := by show (x.l.toArray).size = _; rw [List.size_toArray]
      rw [e]
      show _ + _ * 1 ≤ _
      omega
    · have h2 : (Txt.replace x.s ⟨#[c]⟩ ⟨#[d]⟩).cps = (x.l.map (swapC c d)).toArray := by
        apply Array.toList_inj.mp
        rw [replace_swap x.s c d]
      have h3 : Txt.replace x.s ⟨#[c]⟩ ⟨#[d]⟩ = ⟨(x.l.map (swapC c d)).toArray⟩ := by rw [← h2]
      show V.str (Txt.replace x.s ⟨#[c]⟩ ⟨#[d]⟩) = _
      rw [h3]
end
end Lw
/-! range(e), a[:e] with an e that draws. -/
namespace Lw
open PySem PySem.Spec PyProof.Rows L2
section
variable {K : PySem.W.Frag} {env : Env K} {os : Os} {ta tb te : TE} {α β γ : Type} [iα : Py K α] [iβ : Py K β] [iγ : Py K γ] {b : Bs} {g h : Hp} {σ : L2.St} {D : Ends} {gt : TG} {tbd : TS}
theorem st_forRW {PN : Int → Prop} (s : S0 b g h σ env os) (e : EvW te env os PN) (k : ∀ n, PN n → ∀ g' h', S0 b g' h' σ env os → tFor (iRng1 (tCons (tC (.int n)) tNil)) gt tbd D σ h') : tFor (iRng1 (tCons te tNil)) gt tbd D σ h := by
  show te σ h (fun v H1 => tFor (iRng1 (tCons (tC v) tNil)) gt tbd D σ H1)
  exact e.go s fun v n g' h' p s' _ r => by cases r; exact k n p g' h' s'
theorem ew_slHi {r : V → Option Int → Option Int → Hp → VK → Prop} {P : α → Prop} {P' : Int → Prop} {f : α → Int → γ} (ha : EvW ta env os P) (hb : EvW tb env os P') (hr : ∀ x y, P x → P' y → Ev (tSl r (tVar 0) tNoPart (tPart (tVar 1))) [sv (K := K) x, sv y] [] (f x y)) :
    EvW (tSl r ta tNoPart (tPart tb)) env os (fun z => ∃ x y, P x ∧ P' y ∧ z = f x y) := .mk fun {b g h σ os2 Q} s q => by
  show ta σ h fun x H1 => tb σ H1 fun y H2 => tPart (tC y) σ H2 fun u H3 => r x none u H3 Q
  exact ha.run s fun v x g1 h1 p1 s1 e1 r1 => hb.run s1 fun w y g2 h2 p2 s2 e2 r2 => by
    obtain ⟨v', hv, w', hw, z⟩ := hr x y p1 p2 ((s2.slots (arg2 (iα.mono e2 r1) r2)).drop (os := [])) fun u g3 h3 l3 r3 => q u (f x y) g3 h3 ⟨x, y, p1, p2, rfl⟩ (s2.le l3) (e1.trans (e2.trans l3.gg)) r3
    cases hv; cases hw
    exact z
end
end Lw
/-! list(range(a, b)); x.clear(); a for over a list that a drawing def gives; a call with two owned lists. -/
namespace Lw
open PySem PySem.Spec PyProof.Rows L2
/-- g without the object at l -/
def cutG (g : Hp) (l : Addr) : Hp := fun a => if a = l then none else g a
/-- values that no list at l is part of -/
class Drp (K : PySem.W.Frag) (γ : Type) [i : Py K γ] : Prop where
  dr : ∀ {g : Hp} {v : V} {x : γ} {l : Addr} {vs : List V}, i.R g v x → g l = some (.lst vs) → i.R (cutG g l) v x
section
variable {K : PySem.W.Frag} {env : Env K} {os : Os} {ta tb te td : TE} {α β γ : Type} [iα : Py K α] [iβ : Py K β] [iγ : Py K γ] {b : Bs} {g h : Hp} {σ : L2.St} {D : Ends} {gt : TG} {tbd : TS} {i j m : Nat} {l : Addr}
theorem en_listRg {x y : Int} (ha : Ev ta env os x) (hb : Ev tb env os y) (h1 : -1000000 ≤ x ∧ x ≤ 1000000) (h2 : -1000000 ≤ y ∧ y ≤ 1000000) : EvN (tLstRg (tRg2 ta tb)) env os (rng x y) := fun {b g h σ Q} s q =>
  ha s fun v g1 h1' l1 r1 => hb (s.le l1) fun w g2 h2' l2 r2 => by
    cases r1; cases r2
    refine ⟨x, y, rfl, rfl, ⟨by omega, by omega, by omega, by omega, by omega⟩, fun p hp => ?_⟩
    have e : rgV x y = (rng x y).map V.int := by unfold rgV rng; rw [List.map_map]; rfl
    rw [e]
    exact q p _ g2 h2' (l1.trans l2) hp (paired_of_eq (f := V.int))
theorem st_clear {xs : List α} (s : S0 b g h σ env os) (hx : env[i]? = some (.val V inferInstance (V.ref l))) (ho : os[m]? = some (l, Own.lst K xs)) (k : ∀ g' h', S0 b g' h' σ env (os.set m (l, Own.lst K ([] : List α))) → D.nx σ h') : tDrop (tBM0 K "list" rClear (tVar i)) D σ h := by
  unfold tDrop
  refine ev_var hx s fun v g1 h1 l1 r1 => ?_
  cases r1
  have s1 := s.le l1
  obtain ⟨n1, o, e1, vs, rfl, p1⟩ := s1.own _ (List.mem_of_getElem? ho)
  exact ⟨.inl ⟨rfl, vs, SqL.of e1⟩, l, vs, rfl, rfl, e1, k g1 _ (s1.put (w' := Own.lst K ([] : List α)) ho ⟨_, rfl, .nil⟩)⟩
theorem list_at {v : V} {xs : SL α} (s1 : S0 b g h σ env os) (r1 : (instSL (i := iα)).R g v xs) {R : It → Hp → Prop} (q : ∀ J g' h', Le g h g' h' → Yld (K := K) J g' xs.l → R J h') : iList K (tC v) σ h R := by
  obtain ⟨v', hv, z⟩ := (ei_list (ev_weakS (ev_var (i := 0) rfl)) : EvI (iList K (tVar 0)) [sv xs] [] xs.l) ((s1.slots (arg1 r1)).drop (os := [])) q
  cases hv
  exact z
theorem st_forLW {ws : List Nat} {f : Env K → α → Env K} {P : SL α → Prop} (hg : TgtF (K := K) gt ws f) (s : S0 b g h σ env os) (e : EvW te env os P)
    (k : ∀ xs, P xs → ∃ I : Nat → Env K → Os → Prop, I 0 env os ∧ (∀ n x, xs.l[n]? = some x → Turn1 b D tbd I n (fun e => f e x)) ∧ ∀ env' os' g' h' σ', I xs.l.length env' os' → S0 b g' h' σ' env' os' → D.nx σ' h') : tFor (iList K te) gt tbd D σ h := by
  show te σ h (fun v H1 => tFor (iList K (tC v)) gt tbd D σ H1)
  refine e.go s fun v xs g1 h1 p s1 e1 r1 => ?_
  obtain ⟨I, h0, hs, hd⟩ := k xs p
  refine list_at s1 r1 fun J g2 h2 l2 y => ?_
  refine for_it y.walk (fun n σ' h' => ∃ g' env' os', Same g2 g' ∧ I n env' os' ∧ S0 b g' h' σ' env' os') ⟨g2, env, os, Same.refl _, h0, s1.le l2⟩ (fun n σ' h' _ ⟨g', _, _, e1, _, s'⟩ => e1.trans s'.gh) ?_ ?_
  · rintro n v σ' h' h'' hn ⟨g', env', os', e1, hI, s'⟩ hy
    obtain ⟨g3, l3, r⟩ := y.yl n g' h' xs.l[n] v h'' e1 s'.gh (List.getElem?_eq_getElem hn) hy
    exact turn1_go hg (hs n _ (List.getElem?_eq_getElem hn)) hI (s'.le l3) r fun env2 os2 g4 h4 σ2 e2 hI2 s2 => ⟨g4, env2, os2, (e1.trans l3.gg).trans e2, hI2, s2⟩
  · rintro σ' h' ⟨g', env', os', e1, hI, s'⟩
    exact hd env' os' g' h' σ' hI s'
/-- a call f(x, list, list, y) of a def that may raise, but not here; both lists are owned -/
theorem sE_callOO {A : List (Slot K) → (γ → Prop) → (Addr → List (Str × Slot K) → Prop) → Prop} [dp : Drp K γ] {P : γ → Prop} {a : α} {d : β} {xs ys : List Int} {E : XK} {Q : VK} {l2 : Addr} {m2 : Nat} (s : S0 b g h σ env os) (ea : Ev ta env os a)
    (hx : env[i]? = some (.val V inferInstance (V.ref l))) (ho : os[m]? = some (l, Own.lst K xs)) (hx2 : env[j]? = some (.val V inferInstance (V.ref l2))) (ho2 : os[m2]? = some (l2, Own.lst K ys)) (hmm : m ≠ m2) (ed : Ev td env os d) (hA : A [sv a, sv (SL.mk xs), sv (SL.mk ys), sv d] P fun _ _ => False)
    (k : ∀ v z g' h', P z → S0 b g' h' σ env os → Same g g' → iγ.R g' v z → Q v h') : tCall (SpE K A) [] E (tCons ta (tCons (tVar i) (tCons (tVar j) (tCons td tNil)))) σ h Q := by
  refine ea s fun va g1 h1 l1 ra => ev_var hx (s.le l1) fun v g2 h2 le2 r2 => ev_var hx2 ((s.le l1).le le2) fun v2 g3 h3 le3 r3 => ed (((s.le l1).le le2).le le3) fun vd g4 h4 le4 rd => ?_
  cases r2; cases r3
  have s4 := (((s.le l1).le le2).le le3).le le4
  have hne : l ≠ l2 := fun z => hmm ((List.getElem?_inj (by rw [List.length_map]; exact (List.getElem?_eq_some_iff.mp ho).1) s4.nd).mp (by rw [List.getElem?_map, List.getElem?_map, ho, ho2]; exact congrArg some z))
  obtain ⟨n1, o, e1, vs, rfl, p1⟩ := s4.own _ (List.mem_of_getElem? ho)
  obtain ⟨n2, o, e2, ws, rfl, p2⟩ := s4.own _ (List.mem_of_getElem? ho2)
  have n1 : g4 l = none := n1
  have n2 : g4 l2 = none := n2
  have lg : Same g4 (upd (upd g4 l (.lst vs)) l2 (.lst ws)) := fun c u q => by rw [upd_ne (ne_of_none q n2), upd_ne (ne_of_none q n1)]; exact q
  have gl : upd (upd g4 l (.lst vs)) l2 (.lst ws) l = some (.lst vs) := by rw [upd_ne hne]; exact upd_same
  have gh : Same (upd (upd g4 l (.lst vs)) l2 (.lst ws)) h4 := fun c u q => by
    by_cases hc : c = l2
    · subst hc; rw [upd_same] at q; cases q; exact e2
    · rw [upd_ne hc] at q
      by_cases hc : c = l
      · subst hc; rw [upd_same] at q; cases q; exact e1
      · rw [upd_ne hc] at q; exact s4.gh _ _ q
  have ra4 := iα.mono ((le2.gg.trans le3.gg).trans le4.gg) ra
  refine ⟨_, [sv a, sv (SL.mk xs), sv (SL.mk ys), sv d], P, _, hA, gh, .cons ⟨_, rfl, iα.mono lg ra4⟩ (.cons ⟨_, rfl, l, vs, rfl, gl, pr_mono lg p1⟩ (.cons ⟨_, rfl, l2, ws, rfl, upd_same, pr_mono lg p2⟩ (.cons ⟨_, rfl, iβ.mono lg rd⟩ .nil))), fun v' z' g5 h5 hz l5 r5 => ?_, fun _ _ _ _ _ _ he => he.elim⟩
  have h5l : g5 l = some (.lst vs) := l5.gg _ _ gl
  have h5l2 : g5 l2 = some (.lst ws) := l5.gg _ _ upd_same
  have r6 : iγ.R (cutG (cutG g5 l) l2) v' z' := dp.dr (vs := ws) (dp.dr (vs := vs) r5 h5l) (by unfold cutG; rw [if_neg (Ne.symm hne)]; exact h5l2)
  have le5 : Le g4 h4 (cutG (cutG g5 l) l2) h5 := ⟨fun c u q => by
      unfold cutG
      rw [if_neg (ne_of_none q n2), if_neg (ne_of_none q n1)]
      exact l5.gg _ _ (lg _ _ q), l5.hh, fun c u q => by
      unfold cutG at q
      by_cases c1 : c = l2
      · rw [if_pos c1] at q; cases q
      · rw [if_neg c1] at q
        by_cases c2 : c = l
        · rw [if_pos c2] at q; cases q
        · rw [if_neg c2] at q; exact l5.gh _ _ q, fun c n kk => by
      unfold cutG
      by_cases c1 : c = l2
      · rw [if_pos c1]
      · rw [if_neg c1]
        by_cases c2 : c = l
        · rw [if_pos c2]
        · rw [if_neg c2]
          exact l5.new c (by rw [upd_ne c1, upd_ne c2]; exact n) kk⟩
  exact k v' z' _ _ hz (s4.le le5) ((((l1.gg.trans le2.gg).trans le3.gg).trans le4.gg).trans le5.gg) r6
end
end Lw
/-! x not in list; list[::-1]. -/
namespace Lw
open PySem PySem.Spec PyProof.Rows L2
theorem niDK {K : PySem.W.Frag} {X : Cx} (hu : X.A.units + 65 < cLine) (h : X.K = K := by rfl) : OpR X (compareOp .NotIn) (rNotInD K) := h ▸ op_notInD hu
section
variable {K : PySem.W.Frag} {env : Env K} {os : Os} {ta tb te : TE} {α : Type} [iα : Py K α]
theorem ev_ninD {n : Nat} [d : PyD K α n] {x : α} {ys : List α} {c : Bool} (ha : Ev ta env os x) (hb : Ev tb env os ys) (hc : c = true ↔ x ∈ ys) (ox : d.ok x) (oy : ∀ y ∈ ys, d.ok y) (hd : n + 1 ≤ 64 := by decide) : Ev (tOp (rNotInD K) ta tb) env os (!c) := fun {b g h σ Q} s q =>
  ha s fun v g1 h1 l1 r1 => hb (s.le l1) fun w g2 h2 l2 r2 => by
    have e : ((ys.map d.d).any fun z => PyData.eqv z (d.d x)) = c := by
      rw [Bool.eq_iff_iff, hc, List.any_map, List.any_eq_true]
      constructor
      · rintro ⟨y, hy, q⟩
        rw [← d.eq.mp q]
        exact hy
      · exact fun h => ⟨x, h, d.eq.mpr rfl⟩
    refine ⟨d.d x, ys.map d.d, d.dp (l2.gg.trans l2.gh) r1, ?_, shaped_of ox (by omega), ?_, ?_⟩
    · obtain ⟨a, vs, rfl, q2, p⟩ := r2
      exact .lst (l2.gh.seq q2) (dp_all l2.gh p)
    · exact shaped_of (K := K) (x := ys) oy hd
    · rw [e]; exact q _ _ _ (l1.trans l2) rfl
theorem en_revS {xs : SL α} (ha : Ev te env os xs) : EvN (tRevL K te) env os xs.l.reverse := fun {b g h σ Q} s q =>
  ha s fun v g1 h1 l1 ⟨a, vs, e1, e2, e3⟩ => by
    subst e1
    exact ⟨a, vs, rfl, SqL.of (l1.gh _ _ e2), fun p hp => q p vs.reverse g1 h1 l1 hp (paired_rev e3)⟩
end
end Lw
/-! x = [e for target in a list that a drawing def gives if ..] -/
namespace Lw
open PySem PySem.Spec PyProof.Rows L2
section
variable {K : PySem.W.Frag} {env : Env K} {os : Os} {tl te : TE} {tt : TT} {α β : Type} [iα : Py K α] [iβ : Py K β] {b : Bs} {g h : Hp} {σ : L2.St} {D : Ends} {i : Nat}
theorem lcW {Q : VK} {P : SL α → Prop} {vs : List Nat} {gt : TG} {f : Env K → α → Env K} {p : α → Bool} {m : α → β} (s : S0 b g h σ env os) (hg : TgtF (K := K) gt vs f) (e : EvW tl env os P) (ht : ∀ xs, P xs → ∀ x ∈ xs.l, EvT tt (f (wiped env vs) x) os (p x))
    (he : ∀ xs, P xs → ∀ x ∈ xs.l, p x = true → Ev te (f (wiped env vs) x) os (m x)) (hl : ∀ xs, P xs → xs.l.length ≤ 1000000)
    (k : ∀ xs, P xs → ∀ v g' h', S0 b g' h' σ env os → (instSL (i := iβ)).R g' v (SL.mk ((xs.l.filter p).map m)) → Q v h') : tLc (iList K tl) gt tt te vs σ h Q := by
  show tl σ h (fun v H1 => tLc (iList K (tC v)) gt tt te vs σ H1 Q)
  refine e.go s fun v xs g1 h1 px s1 e1 r1 => ?_
  refine list_at s1 r1 fun J g2 h2 l2 y Dd hD => ?_
  refine lc_it y.walk (fun n H => OcI K env os b g2 h2 σ vs Dd (Own.lst K (((xs.l.take n).filter p).map m)) H) (OcI.start (s1.le l2) hD vs ⟨[], rfl, .nil⟩) (fun n H _ I => ?_) (fun n v H H' hn I hy => ?_) (fun H I => ?_)
  · obtain ⟨g', s', e1, _⟩ := I.ex
    exact e1.trans s'.gh
  · have hxn := List.getElem?_eq_getElem hn
    have hm := List.mem_of_getElem? hxn
    refine I.turn y hxn hy hg (ht xs px _ hm) (fun hc H3 I3 => by rw [filter_take hxn, hc]; exact I3) fun hc σ2 g3 H3 s3 k => he xs px _ hm hc s3 fun z g4 h4 l4 r4 => ?_
    obtain ⟨o, eD, ⟨ws, rfl, pw⟩, fin⟩ := k g4 h4 l4
    refine ⟨ws, eD, by rw [pw.length]; exact take_lt hn (hl xs px), ?_⟩
    rw [filter_take hxn, hc]
    exact fin _ _ ⟨_, rfl, paired_append pw (.cons r4 .nil)⟩
  · rw [List.take_length] at I
    exact I.done fun l o g' h' le hn' ⟨ws, e, pr⟩ => by
      subst e
      have s3 := (s1.le l2).le le
      have le4 := Le.laid s3.gh hn' (o := .lst ws)
      exact k xs px _ _ _ (s3.le le4) ⟨l, ws, rfl, upd_same, pr_mono le4.gg pr⟩
theorem st_setLW {P : SL α → Prop} {vs : List Nat} {gt : TG} {f : Env K → α → Env K} {p : α → Bool} {m : α → β} (s : S0 b g h σ env os) (hg : TgtF (K := K) gt vs f) (e : EvW tl env os P) (ht : ∀ xs, P xs → ∀ x ∈ xs.l, EvT tt (f (wiped env vs) x) os (p x))
    (he : ∀ xs, P xs → ∀ x ∈ xs.l, p x = true → Ev te (f (wiped env vs) x) os (m x)) (hl : ∀ xs, P xs → xs.l.length ≤ 1000000)
    (k : ∀ xs, P xs → ∀ v g' h', S0 b g' h' (σ.set i (some v)) (env.set i (sv (SL.mk ((xs.l.filter p).map m)))) os → D.nx (σ.set i (some v)) h') : tAsg (tLc (iList K tl) gt tt te vs) (gName i) D σ h :=
  lcW (Q := fun x H2 => gName i x σ H2 D.nx) s hg e ht he hl fun xs px v g' h' s' r => k xs px v g' h' (s'.set ⟨v, rfl, r⟩)
theorem ewt_notT {t : TT} (h1 : EvTW t env os fun c => c = true) : EvTW (tNot t) env os (fun c => c = false) := .mk fun {b g h σ os2 Q} s q => h1.run s fun c g1 h' hc s1 e1 => q _ _ _ (by rw [hc]; rfl) s1 e1
theorem ewt_orF {t u : TT} (h1 : EvTW t env os fun c => c = false) (h2 : EvTW u env os fun c => c = false) : EvTW (tOr t u) env os (fun c => c = false) := .mk fun {b g h σ os2 Q} s q => h1.run s fun c g1 h' hc s1 e1 => by
  subst hc
  exact h2.run s1 fun c g2 h2' hc s2 e2 => q _ _ _ hc s2 (e1.trans e2)
end
end Lw
/-! Defs with a star parameter; methods that may raise; calls by positional promises. -/
namespace Lw
open PySem PySem.Spec PyProof.Rows L2 ClX
theorem cxUpN {P : Program} {w : World} : StX.CXUp (L2N.CX P w) := by
  rintro outer s H s2 H2 E e s' un kp ho ⟨a, B, H', cls, d, ea, fl, hok, ub, na, os, ag, he⟩
  refine ⟨a, B, H', cls, d, ea, fl, hok, ⟨fun b o q n hb => ub.keep b o (kp b o q) (un.free b o q n (by simp)) hb, fun b o q hb => ub.slot b o (kp b o q) hb, fun b o q n => ub.free b o (kp b o q) (un.free b o q n (by simp)),
    fun b o q hb => ub.there b o (kp b o q) hb, fun b xs q => ub.tups b xs (un.tups b xs q), fun b o xs q => ub.frzs b o xs (un.frzs b o xs q), fun b ps q => ?_⟩, na, os.trans ho, ag, he⟩
  obtain ⟨m1, e1⟩ := un.tbls b ps q
  obtain ⟨m2, e2⟩ := ub.tbls b _ e1
  exact ⟨m1 ++ m2, by rw [e2, Array.append_assoc]⟩
/-- the promise by position of a def with a star parameter behind n others; sp: over (.., tuple) -/
def SpStar (n : Nat) (sp : Sp) : Sp := fun vs H Q E => ∃ ws rest, vs = ws ++ rest ∧ ws.length = n ∧ rest.length ≤ sizeLine ∧ ∀ p, H p = Option.none → sp (ws ++ [V.ref p]) (upd H p (.tup rest)) Q E
/-- how such a def binds -/
def BindStar (x qual : Str) (params : Arguments) (body : List Stmt) (scope : Scope) (ps : List Str) (pv : Str) : Prop :=
  ∀ (kV doc pm : Value) (an : Option Addr) (cdv ct : Value) (us rest : List Value), us.length = ps.length → bindArgs (PySem.W.fnOf x qual params body scope .none kV doc pm an cdv ct) ⟨us ++ rest, []⟩ = (newTuple rest >>= fun t => pure (ps.zip us ++ [(pv, t)]))
theorem bindStar1 {x qual : Str} {params : Arguments} {body : List Stmt} {scope : Scope} {p1 pv : Str} (h0 : ∀ (kV doc pm : Value) (an : Option Addr) (cdv ct a : Value), bindArgs (PySem.W.fnOf x qual params body scope .none kV doc pm an cdv ct) ⟨[a], []⟩ = (newTuple [] >>= fun t => pure [(p1, a), (pv, t)]))
    (h1 : ∀ (kV doc pm : Value) (an : Option Addr) (cdv ct a r : Value) (rs : List Value), bindArgs (PySem.W.fnOf x qual params body scope .none kV doc pm an cdv ct) ⟨a :: r :: rs, []⟩ = (newTuple (r :: rs) >>= fun t => pure [(p1, a), (pv, t)])) : BindStar x qual params body scope [p1] pv :=
  fun kV doc pm an cdv ct us rest h => match us, rest, h with
    | [a], [], _ => h0 kV doc pm an cdv ct a
    | [a], r :: rs, _ => h1 kV doc pm an cdv ct a r rs
theorem bindStar3 {x qual : Str} {params : Arguments} {body : List Stmt} {scope : Scope} {p1 p2 p3 pv : Str} (h0 : ∀ (kV doc pm : Value) (an : Option Addr) (cdv ct a b c : Value), bindArgs (PySem.W.fnOf x qual params body scope .none kV doc pm an cdv ct) ⟨[a, b, c], []⟩ = (newTuple [] >>= fun t => pure [(p1, a), (p2, b), (p3, c), (pv, t)]))
    (h1 : ∀ (kV doc pm : Value) (an : Option Addr) (cdv ct a b c r : Value) (rs : List Value), bindArgs (PySem.W.fnOf x qual params body scope .none kV doc pm an cdv ct) ⟨a :: b :: c :: r :: rs, []⟩ = (newTuple (r :: rs) >>= fun t => pure [(p1, a), (p2, b), (p3, c), (pv, t)])) : BindStar x qual params body scope [p1, p2, p3] pv :=
  fun kV doc pm an cdv ct us rest h => match us, rest, h with
    | [a, b, c], [], _ => h0 kV doc pm an cdv ct a b c
    | [a, b, c], r :: rs, _ => h1 kV doc pm an cdv ct a b c r rs
section
variable {P : Program} {w : World} {K : PySem.W.Frag} {mg : Str → Option Value} {base : Heap}
theorem funD_star {CX : CXT} {x qual : Str} {params : Arguments} {body : List Stmt} {scope : Scope} {kws : List (Str × V)} {f : Addr} {fd : FuncData} {N ps : List Str} {pv : Str} {k : Nat} {sp : Sp} (F : FunD K x qual params body scope [] kws f fd) (S : FnScope N (ps ++ [pv]) scope) (hCX : StX.CXUp CX) (hb : BindStar x qual params body scope ps pv)
    (hbody : ∀ (cdv : Value) (A : Around) (outer : List PySem.Env) (s : Shared) (H : Hp) (vs : List V) (Q : VK) (E : XK), Room k (A.deeper (envOfC qual scope s.heap.objs.size f cdv)) → sp vs H Q E →
      ∃ t, PSs (cxOf CX P w K mg base N qual scope f cdv A outer s H E) body t ∧ t { nx := fun _ H' => Q .non H', rt := Q } (start N vs) H) : FnR P w K mg base CX (k + 1) f (SpStar ps.length sp) := by
  obtain ⟨oc, od, dV, kV, doc, pm, an, cdv, ct, osl, rfl, lk, hcd, hdV, _⟩ := F.ex
  obtain rfl : dV = .none := (hdV.resolve_right fun z => z.1 rfl).2
  exact StX.fn_star lk hcd S hCX (fun us rest h => hb kV doc pm an cdv ct us rest h) fun A outer s H vs Q E hr hsp => hbody cdv A outer s H vs Q E hr hsp
/-! ### bodies, typed -/
section
variable {γ : Type} [iγ : Py K γ] {qual : Str} {st : Stmt} {f : Addr} {N : List Str} {k : Nat}
theorem body_X {A : List (Slot K) → Os → (γ → Os → Prop) → (Addr → List (Str × Slot K) → Prop) → Prop}
    (hb : ∀ (cdv : Value) (Ar : Around) (outer : List PySem.Env) (s : Shared) (H : Hp) (E : XK), Room k (Ar.deeper (envOfC qual (defScope st) s.heap.objs.size f cdv)) → ∀ (xs : List (Slot K)) (os : Os) (P' : γ → Os → Prop) (PE : Addr → List (Str × Slot K) → Prop), A xs os P' PE →
      ∃ t, PSs (cxOf (L2N.CX P w) P w K mg base N qual (defScope st) f cdv Ar outer s H E) (defBody st) t ∧
        ∀ (g : Hp) (σ : L2.St) (Q : VK), S0 ⟨os.map (·.1), g, H⟩ g H σ (xs ++ List.replicate (N.length - xs.length) .unk) os →
          (∀ v z g' h' σ' env' os' os2, P' z os' → (∀ p ∈ os', p ∈ os2) → S0 ⟨os.map (·.1), g, H⟩ g' h' σ' (env' : Env K) os2 → (os'.map (·.1)).Nodup → iγ.R g' v z → Q v h') →
          (∀ C fs d ws g' h' σ' env' os2, PE C fs → S0 ⟨os.map (·.1), g, H⟩ g' h' σ' (env' : Env K) os2 → h' d = none → FsR g' ws fs → E (.ref C) (some d) (upd h' d (.xd ws))) → t { nx := fun _ H' => Q .non H', rt := Q } σ H)
    (cdv : Value) (Ar : Around) (outer : List PySem.Env) (s : Shared) (H : Hp) (vs : List V) (Q : VK) (E : XK) (hr : Room k (Ar.deeper (envOfC qual (defScope st) s.heap.objs.size f cdv))) (h : SpX K A vs H Q E) :
    ∃ t, PSs (cxOf (L2N.CX P w) P w K mg base N qual (defScope st) f cdv Ar outer s H E) (defBody st) t ∧ t { nx := fun _ H' => Q .non H', rt := Q } (start N vs) H := by
  obtain ⟨g, xs, os, P', PE, hA, gh, o, r, q, qe⟩ := h
  obtain ⟨t, ht, hq⟩ := hb cdv Ar outer s H E hr xs os P' PE hA
  refine ⟨t, ht, hq g _ Q (S0.startW gh r o) (fun v z g' h' σ' env' os' os2 hz hs s' nd rz => q v z os' g' h' hz (fun p hp => ?_) ⟨s'.gg, s'.fr, s'.gh, s'.th, s'.new⟩ (s'.ow.sub hs nd) rz) fun C fs d ws g' h' σ' env' os2 he s' hd hf => qe C fs d ws g' h' he ⟨s'.gg, s'.fr, s'.gh, s'.th, s'.new⟩ hd hf⟩
  rcases s'.ol p (hs p hp) with w | w
  · exact .inr w
  · exact .inl w
theorem body_E {A : List (Slot K) → (γ → Prop) → (Addr → List (Str × Slot K) → Prop) → Prop}
    (hb : ∀ (cdv : Value) (Ar : Around) (outer : List PySem.Env) (s : Shared) (H : Hp) (E : XK), Room k (Ar.deeper (envOfC qual (defScope st) s.heap.objs.size f cdv)) → ∀ (xs : List (Slot K)) (P' : γ → Prop) (PE : Addr → List (Str × Slot K) → Prop), A xs P' PE →
      ∃ t, PSs (cxOf (L2N.CX P w) P w K mg base N qual (defScope st) f cdv Ar outer s H E) (defBody st) t ∧
        ∀ (g : Hp) (σ : L2.St) (Q : VK), S0 ⟨[], g, H⟩ g H σ (xs ++ List.replicate (N.length - xs.length) .unk) [] →
          (∀ v z g' h' σ' env' os', P' z → S0 ⟨[], g, H⟩ g' h' σ' (env' : Env K) os' → iγ.R g' v z → Q v h') →
          (∀ C fs d ws g' h' σ' env' os', PE C fs → S0 ⟨[], g, H⟩ g' h' σ' (env' : Env K) os' → h' d = none → FsR g' ws fs → E (.ref C) (some d) (upd h' d (.xd ws))) → t { nx := fun _ H' => Q .non H', rt := Q } σ H)
    (cdv : Value) (Ar : Around) (outer : List PySem.Env) (s : Shared) (H : Hp) (vs : List V) (Q : VK) (E : XK) (hr : Room k (Ar.deeper (envOfC qual (defScope st) s.heap.objs.size f cdv))) (h : SpE K A vs H Q E) :
    ∃ t, PSs (cxOf (L2N.CX P w) P w K mg base N qual (defScope st) f cdv Ar outer s H E) (defBody st) t ∧ t { nx := fun _ H' => Q .non H', rt := Q } (start N vs) H := by
  obtain ⟨g, xs, P', PE, hA, gh, r, q, qe⟩ := h
  obtain ⟨t, ht, hq⟩ := hb cdv Ar outer s H E hr xs P' PE hA
  exact ⟨t, ht, hq g _ Q (S0.start gh r) (fun v z g' h' σ' env' os' hz s' rz => q v z g' h' hz (s'.fin rfl) rz) fun C fs d ws g' h' σ' env' os' he s' hd hf => qe C fs d ws g' h' he (s'.fin rfl) hd hf⟩
end
/-! ### the star promise, typed -/
theorem args_split {g : Hp} : ∀ {vs : List V} {ws ys : List (Slot K)}, Args g vs (ws ++ ys) → ∃ v1 v2, vs = v1 ++ v2 ∧ Args g v1 ws ∧ Args g v2 ys
  | vs, [], ys, h => ⟨[], vs, rfl, .nil, h⟩
  | _, w :: ws, ys, .cons r t => by
    obtain ⟨v1, v2, e, r1, r2⟩ := args_split (ws := ws) t
    exact ⟨_ :: v1, v2, by rw [e]; rfl, .cons r r1, r2⟩
theorem args_paired {α : Type} [iα : Py K α] {g : Hp} : ∀ {vs : List V} {ys : List α}, Args g vs (ys.map fun y => sv (K := K) y) → Paired (iα.R g) vs ys
  | _, [], .nil => .nil
  | _, y :: ys, .cons ⟨_, e, r⟩ t => by cases e; exact .cons r (args_paired t)
theorem paired_args {α : Type} [iα : Py K α] {g : Hp} : ∀ {vs : List V} {ys : List α}, Paired (iα.R g) vs ys → Args g vs (ys.map fun y => sv (K := K) y)
  | _, _, .nil => .nil
  | _, _, .cons r t => .cons ⟨_, rfl, r⟩ (paired_args t)
/-- what such a def takes, told of the arguments one by one -/
def aStX (n : Nat) (α : Type) [iα : Py K α] {γ : Type} (A : List (Slot K) → Os → (γ → Os → Prop) → (Addr → List (Str × Slot K) → Prop) → Prop) : List (Slot K) → Os → (γ → Os → Prop) → (Addr → List (Str × Slot K) → Prop) → Prop :=
  fun xs os P PE => ∃ (ws : List (Slot K)) (ys : List α), xs = ws ++ ys.map (fun y => sv y) ∧ ws.length = n ∧ ys.length ≤ 1000 ∧ A (ws ++ [sv (Tup.mk ys)]) os P PE
def aStE (n : Nat) (α : Type) [iα : Py K α] {γ : Type} (A : List (Slot K) → (γ → Prop) → (Addr → List (Str × Slot K) → Prop) → Prop) : List (Slot K) → (γ → Prop) → (Addr → List (Str × Slot K) → Prop) → Prop :=
  fun xs P PE => ∃ (ws : List (Slot K)) (ys : List α), xs = ws ++ ys.map (fun y => sv y) ∧ ws.length = n ∧ ys.length ≤ 1000 ∧ A (ws ++ [sv (Tup.mk ys)]) P PE
section
variable {γ : Type} [iγ : Py K γ] {α : Type} [iα : Py K α] {n : Nat}
theorem stE_of {A : List (Slot K) → (γ → Prop) → (Addr → List (Str × Slot K) → Prop) → Prop} (vs : List V) (H : Hp) (Q : VK) (E : XK) (h : SpE K (aStE n α A) vs H Q E) : SpStar n (SpE K A) vs H Q E := by
  obtain ⟨g, xs, P, PE, ⟨ws, ys, rfl, hn, hl, hA⟩, gh, r, q, qe⟩ := h
  obtain ⟨v1, v2, rfl, r1, r2⟩ := args_split r
  have r2 := args_paired r2
  refine ⟨v1, v2, rfl, by rw [args_len r1]; exact hn, by rw [r2.length, sizeLine_eq]; omega, fun p hp => ?_⟩
  have le := Le.laid (o := .tup v2) gh hp
  refine ⟨upd g p (.tup v2), _, P, PE, hA, le.gh, args_append (args_mono le.gg r1) (.cons ⟨_, rfl, p, v2, rfl, upd_same, pr_mono le.gg r2⟩ .nil), fun v z g' h' hz l2 rz => q v z g' h' hz (le.trans l2) rz, fun C fs d ws g' h' he l2 hd hf => qe C fs d ws g' h' he (le.trans l2) hd hf⟩
theorem leW_after {ls : List Addr} {g h g1 h1 g' h' : Hp} (l1 : Le g h g1 h1) (l2 : LeW ls g1 h1 g' h') : LeW ls g h g' h' :=
  ⟨l1.gg.trans l2.gg, fun a o n e => l2.hh a o n (l1.hh _ _ e), l2.gh, fun a n => l2.th a (sameNe l1.hh n), fun a n m => l2.new a (l1.new a n m) (sameNe l1.hh m)⟩
theorem ow_after {g h g1 h1 : Hp} {os : Os} (l1 : Le g h g1 h1) (o : Ow g h os) : Ow g1 h1 os :=
  ⟨fun p hp => by obtain ⟨n, x, e, q⟩ := o.own p hp; exact ⟨l1.new _ n (some_ne_none e), x, l1.hh _ _ e, p.2.mono l1.gg q⟩, o.nd⟩
theorem stX_of {A : List (Slot K) → Os → (γ → Os → Prop) → (Addr → List (Str × Slot K) → Prop) → Prop} (vs : List V) (H : Hp) (Q : VK) (E : XK) (h : SpX K (aStX n α A) vs H Q E) : SpStar n (SpX K A) vs H Q E := by
  obtain ⟨g, xs, os, P, PE, ⟨ws, ys, rfl, hn, hl, hA⟩, gh, o, r, q, qe⟩ := h
  obtain ⟨v1, v2, rfl, r1, r2⟩ := args_split r
  have r2 := args_paired r2
  refine ⟨v1, v2, rfl, by rw [args_len r1]; exact hn, by rw [r2.length, sizeLine_eq]; omega, fun p hp => ?_⟩
  have le := Le.laid (o := .tup v2) gh hp
  refine ⟨upd g p (.tup v2), _, os, P, PE, hA, le.gh, ow_after le o, args_append (args_mono le.gg r1) (.cons ⟨_, rfl, p, v2, rfl, upd_same, pr_mono le.gg r2⟩ .nil), fun v z os' g' h' hz hs l2 o2 rz => q v z os' g' h' hz (fun p' hp' => ?_) (leW_after le l2) o2 rz, fun C fs d ws g' h' he l2 hd hf => qe C fs d ws g' h' he (leW_after le l2) hd hf⟩
  rcases hs p' hp' with w | w
  · exact .inl w
  · refine .inr ?_
    cases e : H p'.1 with
    | none => rfl
    | some u => exact absurd w (sameNe le.hh (some_ne_none e))
end
/-! ### methods by position -/
structure MetR (CX : CXT) (P : Program) (w : World) (K : PySem.W.Frag) (mg : Str → Option Value) (base : Heap) (C : Addr) (m : Str) (k : Nat) (sp : Sp) : Prop where
  c : Cls K C
  ex : ∃ f, Meth K C m f ∧ FnR P w K mg base CX k f sp
section
variable {fa : List He.Fa} {fn : List He.DefD} {ex : PySem.W.Frag → Bool} {xs : List XD}
theorem Fy.metR {CX : CXT} (E : Fy fa fn ex xs K mg) (i j jc : Nat) {C m q : Str} {st : Stmt} {k : Nat} {sp : Sp} (hi : fn[i]? = some ⟨(C, some m), m, q, defArgs st, defBody st, defScope st, [], []⟩) (hj : fa[j]? = some (.meth C m)) (hc : fa[jc]? = some (.cls C))
    (hf : ∀ f fd, FunD K m q (defArgs st) (defBody st) (defScope st) [] [] f fd → FnR P w K mg base CX k f sp) : MetR CX P w K mg base (He.ga K C) m k sp := by
  obtain ⟨fd, F⟩ := E.f.d.def_ i hi
  exact ⟨He.cls_ok (E.f.d.fact jc hc), _, He.meth_ok (E.f.d.fact j hj), hf _ fd F⟩
end
end
section
variable {X : Cx} {C : Addr} {m x : Str} {k n : Nat} {ps ks : List Str} {sp : Sp} {dvs : List V} {o e : Expr} {es : List Expr} {ta te : TE} {t tk : TA} {p apos pos : Pos}
theorem tMethR_eq {E : XK} : tMethR C m sp E ta t = tMeth C m sp [] E ta t := by
  funext σ H Q
  unfold tMethR tMeth
  simp only [List.append_nil]
theorem pe_mR {pl : Sem Bool} {E : XK} {W : WX} (M : MetR (L2N.CX X.prog X.w) X.prog X.w X.K X.mg X.base C m k sp) (hr : Room k X.A) (tk : L2N.Takes X W) (hW : ∀ cls d σ H, E cls d H → W cls d σ H) (he : PE X o ta) (ha : PA X (e :: es) t)
    (hst : starEach (e :: es) X.env = (false, eval e X.env) :: starEach es X.env := by rfl) (hpl : (backTo pos (starEach es X.env)).any (·.1) = false := by rfl)
    (ht : eval (.Call (.Attribute o m apos) (e :: es) [] pos) X.env = (do
      let ov ← eval o X.env
      standAt apos.atName
      let (f, first) ← holding [ov] (getMethod ov m pl)
      callWith pos f first (backTo pos (starEach (e :: es) X.env)) (backToKw pos (keywordEach [] X.env))) := by rfl) :
    PE X (.Call (.Attribute o m apos) (e :: es) [] pos) (tMeth C m sp [] E ta t) := by
  obtain ⟨f, hm, F⟩ := M.ex
  rw [← tMethR_eq]
  exact pe_methR he M.c hm F hr (L2N.passes_call tk hW) ha hst hpl ht
theorem pe_mR0 {pl : Sem Bool} {E : XK} {W : WX} (M : MetR (L2N.CX X.prog X.w) X.prog X.w X.K X.mg X.base C m k sp) (hr : Room k X.A) (tk : L2N.Takes X W) (hW : ∀ cls d σ H, E cls d H → W cls d σ H) (he : PE X o ta)
    (ht : eval (.Call (.Attribute o m apos) [] [] pos) X.env = (do
      let ov ← eval o X.env
      standAt apos.atName
      let (f, first) ← holding [ov] (getMethod ov m pl)
      callWith pos f first (backTo pos (starEach [] X.env)) (backToKw pos (keywordEach [] X.env))) := by rfl) :
    PE X (.Call (.Attribute o m apos) [] [] pos) (tMeth C m sp [] E ta tNil) := by
  obtain ⟨f, hm, F⟩ := M.ex
  refine ⟨fun pins s σ H Q I h => ?_⟩
  refine PySem.W.methodCall_KW (pl := pl) (thn (he.run pins s σ H _ I h) fun u s1 ⟨x, H1, I1, rx, a, dx, fs, ex, ea, l, q⟩ => ?_) ht
  subst ex
  obtain rfl : u = Value.ref a := rx
  refine getmeth_ok I1 ea M.c hm l ?_
  exact PySem.W.callWith_K0 (first := [.ref a]) I1.kIn hm.kp (wpAny_call (run_fnR (us := [.ref a]) (vs := [.ref a]) F hr (L2N.passes_call tk hW) I1 (.cons rfl .nil) q))
end
section
variable {K : PySem.W.Frag} {env : Env K} {os : Os} {ta te : TE} {t : TA} {C : Addr} {fs : List (Str × Slot K)} {α γ : Type} [iα : Py K α] [iγ : Py K γ] {b : Bs} {g h : Hp} {σ : L2.St}
/-- x.m(..) that may raise -/
theorem sE_meth {A : List (Slot K) → (γ → Prop) → (Addr → List (Str × Slot K) → Prop) → Prop} {P : γ → Prop} {PE : Addr → List (Str × Slot K) → Prop} {xs : List (Slot K)} {x : α} {E : XK} {mn : Str} {Q : VK} (s : S0 b g h σ env os) (ha : Ev ta env os x) (hR : InsOf K C x fs) (hm : fs.lookup mn = none) (e : EvA t env os xs) (hA : A (sv x :: xs) P PE)
    (k : ∀ v z g' h', P z → S0 b g' h' σ env os → Same g g' → iγ.R g' v z → Q v h') (kx : ∀ C fs d ws g' h', PE C fs → S0 b g' h' σ env os → h' d = none → FsR g' ws fs → E (.ref C) (some d) (upd h' d (.xd ws))) : tMeth C mn (SpE K A) [] E ta t σ h Q :=
  ha s fun v g1 h1 l1 r1 => by
    obtain ⟨a, dx, ws, rfl, h2, h3⟩ := hR _ _ r1
    refine ⟨a, dx, ws, rfl, l1.gh _ _ h2, fsr_none h3 hm, e (s.le l1) fun vs g2 h4 l2 r2 => ?_⟩
    exact ⟨g2, _, _, _, hA, l2.gh, by rw [List.append_nil]; exact .cons ⟨_, rfl, iα.mono l2.gg r1⟩ r2, fun v' z' g3 h5 hz l3 r3 => k v' z' g3 h5 hz (((s.le l1).le l2).le l3) ((l1.gg.trans l2.gg).trans l3.gg) r3, fun C fs d ws g3 h5 he l3 hd hf => kx C fs d ws g3 h5 he (((s.le l1).le l2).le l3) hd hf⟩
end
end Lw
/-! Classmethods; own binary operators; cls(..); lcm; sorted(a set of any size); join. -/
namespace Lw
open PySem PySem.Spec PyProof.Rows L2 ClX
/-! ### classmethods -/
theorem fnWA_funD {K : PySem.W.Frag} {a : Addr} {name qual : Str} {params : Arguments} {body : List Stmt} {scope : Scope} (e : fnWA K a = some (name, qual, params, .stmts body, scope, mainGlobals, [], builtinsNs)) (kp : PySem.W.keepIn K (.ref a) = true)
    (c2 : (match K.lookup a with
    | some ⟨_, _, .func fd, _⟩ => PySem.W.codeIn K fd.code qual && (He.dflB K fd.defaults [] && He.kwdB K fd.kwdefaults [])
    | _ => false) = true) : ∃ fd, FunD K name qual params body scope [] [] a fd := by
  unfold fnWA at e
  cases q : K.lookup a with
  | none =>
    rw [q] at c2
    cases c2
  | some o =>
    obtain ⟨oc, od, dt, osl⟩ := o
    rw [q] at c2 e
    cases dt with
    | func fd =>
      obtain ⟨n1, n2, n3, n4, n5, n6, n7, n8, n9, n10, n11, n12, n13, n14, n15⟩ := fd
      have e2 : some (n1, n2, n3, n4, n5, n6, n7.map (·.1), n15) = some (name, qual, params, FuncBody.stmts body, scope, mainGlobals, ([] : List Str), builtinsNs) := e
      simp only [Option.some.injEq, Prod.mk.injEq, List.map_eq_nil_iff] at e2
      obtain ⟨h1, h2, h3, h4, h5, h6, h7, h8⟩ := e2
      subst h1 h2 h3 h4 h5 h6 h7 h8
      have c3 : (PySem.W.codeIn K n13 n2 && (He.dflB K n8 [] && He.kwdB K n9 [])) = true := c2
      obtain ⟨k1, k2⟩ := He.ba c3
      obtain ⟨k3, k4⟩ := He.ba k2
      exact ⟨_, ⟨oc, od, n8, n9, n10, n11, n12, n13, n14, osl, rfl, q, k1, He.dflB_ok k3, He.kwdB_ok k4⟩, kp⟩
    | _ => cases c2
/-- C.m is a classmethod that keeps the promise sp -/
structure MetC (CX : CXT) (P : Program) (w : World) (K : PySem.W.Frag) (mg : Str → Option Value) (base : Heap) (C : Addr) (m : Str) (k : Nat) (sp : Sp) : Prop where
  r : CRead K C (.type "type")
  ex : ∃ p g, CMet K C (.type "type") m p g ∧ FnR P w K mg base CX k g sp
theorem recB_ok {K : PySem.W.Frag} {C m : Str} {st : Stmt} (h : recB K C m (C ++ "." ++ m) = true) (e : XD.obs K ⟨C, st, some (m, "classmethod")⟩ = XD.val ⟨C, st, some (m, "classmethod")⟩) :
    CRead K (He.ga K C) (.type "type") ∧ CMet K (He.ga K C) (.type "type") m (He.ma K (He.ga K C) m) (recF K C m "classmethod") ∧ ∃ fd, FunD K m (C ++ "." ++ m) (defArgs st) (defBody st) (defScope st) [] [] (recF K C m "classmethod") fd := by
  obtain ⟨h1, h⟩ := He.ba h
  obtain ⟨h2, h⟩ := He.ba h
  obtain ⟨h3, h⟩ := He.ba h
  obtain ⟨h4, h⟩ := He.ba h
  obtain ⟨h5, h6⟩ := He.ba h
  obtain ⟨fd, F⟩ := fnWA_funD (K := K) (a := recF K C m "classmethod") (show fnWA K (recF K C m "classmethod") = _ from e) h5 h6
  refine ⟨⟨h1, He.eqO_ok h2⟩, ⟨?_, ?_, ?_⟩, fd, F⟩
  · split at h3
    · rename_i b p C' q
      obtain ⟨a1, a2⟩ := He.ba h3
      obtain ⟨a2, a3⟩ := He.ba a2
      have a1 := of_decide_eq_true a1
      have a2 := of_decide_eq_true a2
      have a3 := of_decide_eq_true a3
      subst a1 a2 a3
      exact q
    · cases h3
  · split at h4
    · rename_i g r q
      have a1 := of_decide_eq_true h4
      rw [← a1]
      exact ⟨r, q⟩
    · cases h4
  · obtain ⟨oc, od, dV, kV, doc, pm, an, cdv, ct, osl, rfl, lk, _⟩ := F.ex
    unfold PySem.W.fnIn
    rw [lk]
section
variable {X : Cx} {CX : CXT} {k i : Nat} {C p g f : Addr} {mc : Value} {sp : Sp} {E : XK} {o e fe : Expr} {es : List Expr} {m x : Str} {pos apos : Pos} {ta tf : TE} {t : TA} {pl : Sem Bool} {fd : FuncData} {ps : List Str} {ds : List Value} {dvs : List V}
/-- C.m() -/
theorem pe_cmeth0 {W : WX} (he : PE X o ta) (M : MetC (L2N.CX X.prog X.w) X.prog X.w X.K X.mg X.base C m k sp) (hr : Room k X.A) (tk : L2N.Takes X W) (hW : ∀ cls d σ H, E cls d H → W cls d σ H)
    (ht : eval (.Call (.Attribute o m apos) [] [] pos) X.env = (do
      let ov ← eval o X.env
      standAt apos.atName
      let (f, first) ← holding [ov] (getMethod ov m pl)
      callWith pos f first (backTo pos (starEach [] X.env)) (backToKw pos (keywordEach [] X.env))) := by rfl) :
    PE X (.Call (.Attribute o m apos) [] [] pos) (tCMeth C sp E ta tNil) := by
  obtain ⟨p, g, c, F⟩ := M.ex
  refine ⟨fun pins s σ H Q I h => ?_⟩
  refine PySem.W.methodCall_KW (pl := pl) (thn (he.run pins s σ H _ I h) fun u s1 ⟨x, H1, I1, rx, ex, q⟩ => ?_) ht
  subst ex
  obtain rfl : u = Value.ref C := rx
  refine getmethcm_ok I1 M.r c fun s2 I2 => ?_
  exact PySem.W.callWith_M0 (K := X.K) ⟨pin_at I2, I2.kIn⟩ c.fi (run_cm (us := []) (vs := []) F hr (L2N.passes_call tk hW) I2 .nil q)
/-- f(e, ..), f an expression that gives the class at C -/
theorem pe_makeL (hf : PE X fe tf) (M : Mk X.K C f) (F : FnOk X.prog X.w X.K X.mg X.base CX k f fd ps sp) (hr : Room (k + 1) X.A) (hb : Binds X.K fd ps ds) (hd : Vals dvs ds) (hx : Passes CX X E) (ha : PA X (e :: es) t)
    (ht : eval (.Call fe (e :: es) [] pos) X.env = (do callWith pos (← eval fe X.env) [] (backTo pos (starEach (e :: es) X.env)) (backToKw pos (keywordEach [] X.env))) := by rfl)
    (he : starEach (e :: es) X.env = (false, eval e X.env) :: starEach es X.env := by rfl) (hpl : (backTo pos (starEach es X.env)).any (·.1) = false := by rfl) : PE X (.Call fe (e :: es) [] pos) (fun σ H Q => tf σ H fun y H1 => y = V.ref C ∧ tMake C sp dvs E t σ H1 Q) := by
  refine ⟨fun pins s σ H Q I h => ?_⟩
  refine Call_ (thn (hf.run pins s σ H _ I h) fun u s1 ⟨y, H1, I1, ry, ey, q⟩ => ?_) ht
  subst ey
  obtain rfl : u = Value.ref C := ry
  refine PySem.W.callWith_K (h₀ := X.base) I.ok.mod.kin M.kp (thn (ha.run pos pins s1 σ H1 _ I1 q) fun us s2 ⟨vs, H2, I2, r, q2⟩ => ⟨I2.kIn, ?_⟩) he hpl
  exact run_make M F hr hb hd hx I2 r q2
theorem pe_mkL {W : WX} (hf : PE X fe tf) (M : Mak X.prog X.w X.K X.mg X.base x C k ps dvs sp) (hr : Room (k + 1) X.A) (tk : L2N.Takes X W) (hW : ∀ cls d σ H, E cls d H → W cls d σ H) (ha : PA X (e :: es) t)
    (ht : eval (.Call fe (e :: es) [] pos) X.env = (do callWith pos (← eval fe X.env) [] (backTo pos (starEach (e :: es) X.env)) (backToKw pos (keywordEach [] X.env))) := by rfl)
    (he : starEach (e :: es) X.env = (false, eval e X.env) :: starEach es X.env := by rfl) (hpl : (backTo pos (starEach es X.env)).any (·.1) = false := by rfl) : PE X (.Call fe (e :: es) [] pos) (fun σ H Q => tf σ H fun y H1 => y = V.ref C ∧ tMake C sp dvs E t σ H1 Q) := by
  obtain ⟨f, fd, ds, hm, bi, hd, F⟩ := M.ex
  exact pe_makeL hf hm F hr bi hd (L2N.passes_call tk hW) ha ht he hpl
/-! ### own binary operators -/
def rBinOwn (C : Addr) (sp : Sp) (E : XK) : V → V → Hp → VK → Prop := fun x y H Q => ∃ a dx fs b dy gs, x = .ref a ∧ y = .ref b ∧ H a = some (.ins C dx fs) ∧ H b = some (.ins C dy gs) ∧ sp [x, y] H Q E
theorem op_binOwn {op : Operator} {W : WX} (nm : Str) (hnm : PySem.dunder op.info.2 = nm) (M : Met (L2N.CX X.prog X.w) X.prog X.w X.K X.mg X.base C nm k ps sp) (hc : PySem.W.selfFirst X.K C = true) (hr : Room k X.A) (tk : L2N.Takes X W) (hW : ∀ cls d σ H, E cls d H → W cls d σ H) : OpR X (binaryOp op) (rBinOwn C sp E) := by
  intro pins s σ H x y v u Q I rx ry h
  obtain ⟨a, dx, fs, b, dy, gs, rfl, rfl, ha, hb, hq⟩ := h
  obtain ⟨f, fd, hm, bi, F⟩ := M.ex
  obtain rfl : v = Value.ref a := rx
  obtain rfl : u = Value.ref b := ry
  obtain ⟨mA, J, _⟩ := ins_get I.hok ha
  obtain ⟨mB, J', _⟩ := ins_get I.hok hb
  obtain ⟨od, J, _⟩ := J.look
  obtain ⟨od', J', _⟩ := J'.look
  obtain ⟨m, hF⟩ := I.fr
  refine PySem.W.binop_K (op := op) hF I.ok.mod.kin J J'.type hc (by rw [hnm]; exact hm.at_) hm.fn ?_
  refine wpAny_mono (run_fn (us := [.ref a, .ref b]) (vs := [.ref a, .ref b]) F hr bi .nil (L2N.passes_call tk hW) I (.cons rfl (.cons rfl .nil)) hq) (fun r s' hr' => ?_) fun _ _ z => z
  cases r with
  | notImplemented =>
    obtain ⟨x', H', I', rx', q⟩ := hr'
    cases x' <;> first | (cases rx'; done) | (obtain ⟨t, h⟩ := rx'; cases h)
  | _ => exact hr'
end
section
variable {K : PySem.W.Frag} {env : Env K} {os : Os} {ta tb te : TE} {t : TA} {C : Addr} {fs gs : List (Str × Slot K)} {α β γ : Type} [iα : Py K α] [iβ : Py K β] [iγ : Py K γ] {b : Bs} {g h : Hp} {σ : L2.St}
/-- x & y of own instances -/
theorem sE_bin {A : List (Slot K) → (γ → Prop) → (Addr → List (Str × Slot K) → Prop) → Prop} {P : γ → Prop} {PE : Addr → List (Str × Slot K) → Prop} {x : α} {y : β} {E : XK} {Q : VK} (s : S0 b g h σ env os) (ha : Ev ta env os x) (hb : Ev tb env os y) (hR : InsOf K C x fs) (hR2 : InsOf K C y gs) (hA : A [sv x, sv y] P PE)
    (k : ∀ v z g' h', P z → S0 b g' h' σ env os → Same g g' → iγ.R g' v z → Q v h') (kx : ∀ C fs d ws g' h', PE C fs → S0 b g' h' σ env os → h' d = none → FsR g' ws fs → E (.ref C) (some d) (upd h' d (.xd ws))) : tOp (rBinOwn C (SpE K A) E) ta tb σ h Q :=
  ha s fun v g1 h1 l1 r1 => hb (s.le l1) fun w g2 h2 l2 r2 => by
    obtain ⟨a, dx, ws, rfl, h3, h4⟩ := hR _ _ r1
    obtain ⟨a2, dx2, ws2, rfl, h5, h6⟩ := hR2 _ _ r2
    exact ⟨a, dx, ws, a2, dx2, ws2, rfl, rfl, l2.gh _ _ (l2.gg _ _ h3), l2.gh _ _ h5, g2, _, _, _, hA, l2.gh, .cons ⟨_, rfl, iα.mono l2.gg r1⟩ (.cons ⟨_, rfl, r2⟩ .nil),
      fun v' z' g3 h7 hz l3 r3 => k v' z' g3 h7 hz (((s.le l1).le l2).le l3) ((l1.gg.trans l2.gg).trans l3.gg) r3, fun C fs d ws g3 h7 he l3 hd hf => kx C fs d ws g3 h7 he (((s.le l1).le l2).le l3) hd hf⟩
theorem ev_bin {A : List (Slot K) → (γ → Prop) → (Addr → List (Str × Slot K) → Prop) → Prop} {x : α} {y : β} {E : XK} {z : γ} (ha : Ev ta env os x) (hb : Ev tb env os y) (hR : InsOf K C x fs) (hR2 : InsOf K C y gs) (hA : A [sv x, sv y] (fun w => w = z) fun _ _ => False) : Ev (tOp (rBinOwn C (SpE K A) E) ta tb) env os z := fun {b g h σ Q} s q =>
  ha s fun v g1 h1 l1 r1 => hb (s.le l1) fun w g2 h2 l2 r2 => by
    obtain ⟨a, dx, ws, rfl, h3, h4⟩ := hR _ _ r1
    obtain ⟨a2, dx2, ws2, rfl, h5, h6⟩ := hR2 _ _ r2
    exact ⟨a, dx, ws, a2, dx2, ws2, rfl, rfl, l2.gh _ _ (l2.gg _ _ h3), l2.gh _ _ h5, g2, _, _, _, hA, l2.gh, .cons ⟨_, rfl, iα.mono l2.gg r1⟩ (.cons ⟨_, rfl, r2⟩ .nil),
      fun v' z' g3 h7 hz l3 r3 => q v' g3 h7 ((l1.trans l2).trans l3) (hz ▸ r3), fun C fs d ws g3 h7 he => he.elim⟩
/-! ### lcm -/
def rLcm : List V → Hp → VK → Prop := fun vs H Q => ∃ a b : Int, vs = [.int a, .int b] ∧ (0 ≤ a ∧ a ≤ 100000) ∧ (0 ≤ b ∧ b ≤ 100000) ∧ Q (.int ((Nat.lcm a.toNat b.toNat : Nat) : Int)) H
theorem cr_lcm {X : Cx} : CallR X (.builtin "math.lcm") rLcm := by
  intro pins s σ H vs us Q I r h
  obtain ⟨a, b, rfl, ha, hb, q⟩ := h
  obtain ⟨t, u, rfl⟩ := Vals.int2 r
  have e1 : a.natAbs = a.toNat := by omega
  have e2 : b.natAbs = b.toNat := by omega
  have hl : (Nat.lcm a.toNat b.toNat) ≤ 10000000000 := by
    have h1 : Nat.lcm a.toNat b.toNat ≤ a.toNat * b.toNat := by
      unfold Nat.lcm
      exact Nat.div_le_self _ _
    have h2 : a.toNat * b.toNat ≤ 100000 * 100000 := Nat.mul_le_mul (by omega) (by omega)
    omega
  refine PySem.W.mg_lcm_v (c := ((Nat.lcm a.toNat b.toNat : Nat) : Int)) (by omega) (by omega) (by rw [e1, e2, Nat.lcm_one_left]) ?_ ⟨.int _, H, I.tok _, ⟨_, rfl⟩, q⟩
  rw [Int.natAbs_natCast]
  have h3 : (Nat.lcm a.toNat b.toNat).log2 ≤ 63 := by
    by_cases h0 : Nat.lcm a.toNat b.toNat = 0
    · rw [h0]; decide
    · have := (Nat.log2_lt h0 (k := 64)).mpr (by omega)
      omega
  exact Nat.lt_of_le_of_lt h3 (by decide)
theorem ev_lcm {x y : Int} (ha : Ev ta env os x) (hb : Ev tb env os y) (h1 : 0 ≤ x ∧ x ≤ 100000) (h2 : 0 ≤ y ∧ y ≤ 100000) : Ev (tCB rLcm (tCons ta (tCons tb tNil))) env os ((Nat.lcm x.toNat y.toNat : Nat) : Int) := ev_cb2 ha hb fun v w g h e r1 r2 Q q => by
  cases r1; cases r2
  exact ⟨x, y, rfl, h1, h2, q _ g h (Le.refl e) rfl⟩
end
/-! ### sorted(a set), of any size -/
section
open PyProof.Rows SrtO Srt
variable {P : Program} {w : World} {A : Around} {E : Value → Shared → Prop} {s : Shared} {a : Addr}
theorem sorted_setL {S : Int → Bool} {n : Nat} {Q : Value → Shared → Prop} (R : SetR w s.heap a S n) (hh : A.handled = none) (h64 : n ≤ 100000)
    (hQ : ∀ s' p (out : Array Value) (c : Nat) (ns : List Int), (∀ b o, s.heap.get? b = some o → s'.heap.get? b = some o) → s'.gens = s.gens → s'.os = s.os → s.heap.objs.size ≤ p →
      s'.heap.get? p = some (seqObj "list" out c) → IntsAre out.toList ns → ns.Pairwise (· < ·) → (∀ k, k ∈ ns ↔ S k = true) → ns.length = n → Q (.ref p) s') :
    wpAny (model P w) A (call (.builtin "sorted") [.ref a]) Q E s := by
  obtain ⟨o, es, ep, t, ho, hex, hd, g, nd, hm, hb, hf, hn, hr, hl⟩ := R
  refine Calls.call_function_entry kind_sorted plain_sorted entry_sorted (args_sorted1 _) ?_
  unfold Builtin.«sorted»
  refine wpAny_bind (m := checkCount "sorted" 1 1 _) (wpAny_pure ?_)
  refine wpAny_bind (collect_set (A := A.in1) hh ⟨o, ho, hex.1, hd⟩ hf hb hr hl fun s1 vs k1 hz g1 o1 pm => ?_)
  have hvl : vs.length = n := by rw [pm.length_eq, List.length_map, Array.length_toList]; exact hn
  have hI : IntsAre vs (vs.map Builtin.Re.reRawOf) := ints_of vs fun v hv => by
    obtain ⟨e, he, q⟩ := List.mem_map.mp (pm.mem_iff.mp hv)
    obtain ⟨k, tk, h1, _⟩ := g e he
    exact ⟨k, tk, by rw [← q]; exact h1⟩
  have pk : (vs.map Builtin.Re.reRawOf).Perm (es.toList.map keyOf) := by
    have q := pm.map Builtin.Re.reRawOf
    rw [List.map_map] at q
    exact q
  have hvz : vs.length ≤ sizeLine := by rw [hvl, sizeLine_eq]; omega
  refine wpAny_bind (wpAny_newList ?_ hvz)
  have hoL : (s1.heap.push (seqObj "list" vs.toArray 0)).get? s1.heap.objs.size = some (seqObj "list" vs.toArray 0) := Heap.get?_push_size _ rfl
  refine wpAny_bind (wpAny_holding (wpAny_call_entry slot_list_sort ⟨_, hoL, rfl⟩ entry_list_sort (list_sort_ord swo_int hoL hvz (fun h2 => ints_sortable hI h2) fun out hs hb2 => ⟨_, rfl, ?_⟩) (args_list_sort _)))
  obtain ⟨a1, a2, a3⟩ := ints_out hI hs hb2
  obtain ⟨c, hc⟩ := sortedHeap_at (vs := vs) (out := out.toArray) hoL
  have pn : (out.map iv).Perm (es.toList.map keyOf) := a2.trans pk
  refine wpAny_pure ⟨_, rfl, hQ _ s1.heap.objs.size out.toArray c (out.map iv) (fun b u e => ?_) g1 o1 hz hc a1 (lt_of_le_nodup _ a3 (pn.nodup_iff.mpr nd)) (fun k => by rw [pn.mem_iff, ← hm k]) ?_⟩
  · have q := k1 b u e
    have hlt := Heap.lt_size q
    show (sortedHeap (s1.heap.push (seqObj "list" vs.toArray 0)) s1.heap.objs.size vs out.toArray).get? b = some u
    rw [sortedHeap_old (Nat.ne_of_lt hlt) (by rw [size_push']; exact Nat.lt_succ_of_lt hlt)]
    exact Heap.get?_push_of_some _ q
  · rw [pn.length_eq, List.length_map, Array.length_toList]; exact hn
end
def rSortedSetL (w : World) : List V → Hp → VK → Prop := fun vs H Q => ∃ (a : Addr) (S : Int → Bool) (n : Nat), vs = [V.ref a] ∧ H a = some (SetO w a S n) ∧ n ≤ 100000 ∧
  ∀ (ns : List Int) (p : Addr), ns.Pairwise (· < ·) → (∀ k : Int, k ∈ ns ↔ S k = true) → ns.length = n → H p = none → Q (.ref p) (upd H p (.lst (ns.map V.int)))
theorem cr_sortedSetL {X : Cx} (hc : X.calm = true) : CallR X (.builtin "sorted") (rSortedSetL X.w) := by
  intro pins s σ H vs us Q I r h
  obtain ⟨a, S, n, rfl, ha, h64, q⟩ := h
  have R := setO_get I ha
  rw [Vals.ref1 r]
  refine sorted_setL R (I.ok.hd hc) h64 fun s' p out c ns k g o hp hg hi hs hm hl => ?_
  have hlen : (ns.map V.int).length ≤ sizeLine := by rw [List.length_map, hl, sizeLine_eq]; omega
  have hn : H p = none := I.hok.fresh hp
  have J : Inv X pins σ (upd H p (.lst (ns.map V.int))) { s with heap := s'.heap, gens := s'.gens, drawn := s'.drawn, toks := s'.toks } :=
    I.call (ch := []) (Un.laid k hp hn) (I.hok.laid k hp ⟨hlen, out.toList, c, vals_of_ints hi, hg⟩) (by rw [g]; exact I.bare) (fun _ z => nomatch z)
  have e : s' = { s with heap := s'.heap, gens := s'.gens, drawn := s'.drawn, toks := s'.toks } := by
    cases s'
    cases s
    cases o
    rfl
  rw [e]
  exact ⟨.ref p, _, J, rfl, q ns p hs hm hl hn⟩
section
variable {K : PySem.W.Frag} {env : Env K} {os : Os} {te ta to : TE} {w : World} {S : Int → Bool} {n : Nat}
theorem en_sortSetL {zs : List Int} (ha : Ev te env os (ISet.mk w S n)) (hn : n ≤ 100000) (hz : zs.Pairwise (· < ·)) (hm : ∀ k, k ∈ zs ↔ S k = true) : EvN (tCB (rSortedSetL w) (tCons te tNil)) env os zs := fun {b g h σ Q} s q =>
  ha s fun v g1 h1 l1 r1 => by
    obtain ⟨a, c, rfl, h2, h3⟩ := r1
    refine ⟨a, S, c, rfl, l1.gh _ _ h2, Nat.le_trans h3 hn, fun ns p hp hmem _ hf => ?_⟩
    have e : ns = zs := rising_ext hp hz fun k => (hmem k).trans (hm k).symm
    subst e
    exact q p _ g1 h1 l1 hf (paired_of_eq (f := V.int))
/-! ### sorted(a list of ints), of any length -/
theorem en_sortL {xs zs : List Int} (ha : Ev te env os xs) (hl : xs.length ≤ 1000000) (hp : zs.Perm xs) (hz : zs.Pairwise (· ≤ ·)) (uq : ∀ {as bs : List Int}, as.Perm bs → as.Pairwise (· ≤ ·) → bs.Pairwise (· ≤ ·) → as = bs) : EvN (tCB (rSortedI K) (tCons te tNil)) env os zs := fun {b g h σ Q} s q =>
  ha s fun v g1 h1 l1 r1 => by
    obtain ⟨a, vs, rfl, h2, h3⟩ := r1
    have e := ints_map h3
    subst e
    refine ⟨a, xs, rfl, l1.gh.seq h2, fun ns p hp1 hs hf => ?_⟩
    have e : ns = zs := uq (hp1.trans hp.symm) hs hz
    subst e
    exact q p _ g1 h1 l1 hf (paired_of_eq (f := V.int))
/-! ### "".join(xs) -/
theorem joinL_nil : ∀ l : List (List Nat), TL.joinL [] l = l.flatten
  | [] => rfl
  | [p] => by simp [TL.joinL]
  | p :: q :: r => by
    show p ++ ([] ++ TL.joinL [] (q :: r)) = _
    rw [joinL_nil (q :: r), List.nil_append, List.flatten_cons, List.flatten_cons]
    rfl
theorem sgs_map {g : Hp} : ∀ {vs : List V} {xs : List Sg}, Paired ((instSg (K := K)).R g) vs xs → vs = (xs.map Sg.s).map V.str
  | _, _, .nil => rfl
  | _, _, .cons r t => by cases r; rw [sgs_map t]; rfl
theorem join_sg {xs : List Sg} : Txt.join (⟨#[]⟩ : Str) (xs.map Sg.s) = (Sg.mk (xs.map Sg.l).flatten).s := by
  have e : TL.tl (Txt.join (⟨#[]⟩ : Str) (xs.map Sg.s)) = (xs.map Sg.l).flatten := by
    rw [TL.join_eq, TL.tl_join]
    show TL.joinL [] _ = _
    rw [joinL_nil, List.map_map]
    rfl
  generalize Txt.join (⟨#[]⟩ : Str) (xs.map Sg.s) = z at e
  obtain ⟨⟨l⟩⟩ := z
  have e : l = (xs.map Sg.l).flatten := e
  rw [e]
/-- "".join(a list) -/
theorem ev_join0 {xs : List Sg} {z : Str} (ez : z = ⟨#[]⟩) (hb : EvH te env os xs) (hl : (xs.map (fun x => x.l.length)).sum ≤ 1000000) : Ev (tM1 (fun x xs H Q => ∃ a p, ∃ ys : List Str, x = .str a ∧ xs = [.ref p] ∧ (SqL K H p (ys.map V.str) ∨ SqT K H p (ys.map V.str)) ∧
      (ys.map (·.length)).sum + ys.length * a.length ≤ 16777216 ∧ Q (.str (Txt.join a ys)) H) (tC (.str z)) te) env os (Sg.mk (xs.map Sg.l).flatten) := fun {b g h σ Q} s q =>
  ⟨⟨_, rfl⟩, hb s fun l2 ws g2 h2 le2 e2 p2 => by
    have e := sgs_map p2
    subst e
    have e2' : (xs.map Sg.s).map (·.length) = xs.map fun x => x.l.length := by rw [List.map_map]; rfl
    refine ⟨z, l2, xs.map Sg.s, rfl, rfl, .inl (SqL.of e2), ?_, q _ _ _ le2 ?_⟩
    · rw [e2', ez]
      show _ + _ * 0 ≤ _
      omega
    · rw [ez, join_sg]; rfl⟩
end
end Lw
/-! Methods, makers, own operators within a try; clauses one by one. -/
namespace Lw
open PySem PySem.Spec PyProof.Rows L2 ClX
section
variable {X : Cx} {pins : List (Addr × Obj)} {CX : CXT} {k i : Nat} {f C : Addr} {fd : FuncData} {ps : List Str} {ds : List Value} {dvs : List V} {sp : Sp} {E : L2.St → XK} {x m : Str} {p pos apos : Pos} {e o a b : Expr} {es : List Expr} {ta tb te : TE} {t : TA} {σ : L2.St} {H : Hp} {s : Shared} {Q : VK} {us : List Value} {vs : List V}
theorem run_fnRS (F : FnR X.prog X.w X.K X.mg X.base CX k f sp) (hr : Room k X.A) (hx : PassesAt CX X σ (E σ)) (I : Inv X pins σ H s) (r : Vals vs us) (h : sp vs H Q (E σ)) : wpAny (model X.prog X.w) X.A (call (.ref f) us) (EP X pins σ Q) X.xe s := by
  refine wpAny_call (codeAny_mono (F X.A X.stack s H us vs Q (E σ) hr I.env0 r h) fun r s' hq => ?_)
  cases r with
  | error e => exact hx pins H s e s' I hq
  | ok fl =>
    cases fl with
    | ret u => exact I.after hq
    | next => exact False.elim hq
    | brk => exact False.elim hq
    | cont => exact False.elim hq
/-- o.m(..) of a def by position, in a try -/
theorem pe_mRS {pl : Sem Bool} {W : WX} (M : MetR (L2N.CX X.prog X.w) X.prog X.w X.K X.mg X.base C m k sp) (hr : Room k X.A) (tk : L2N.Takes X W) (he : PE X o ta) (ha : PA X (e :: es) t)
    (hst : starEach (e :: es) X.env = (false, eval e X.env) :: starEach es X.env := by rfl) (hpl : (backTo pos (starEach es X.env)).any (·.1) = false := by rfl)
    (ht : eval (.Call (.Attribute o m apos) (e :: es) [] pos) X.env = (do
      let ov ← eval o X.env
      standAt apos.atName
      let (f, first) ← holding [ov] (getMethod ov m pl)
      callWith pos f first (backTo pos (starEach (e :: es) X.env)) (backToKw pos (keywordEach [] X.env))) := by rfl) :
    PE X (.Call (.Attribute o m apos) (e :: es) [] pos) (fun σ H Q => tMeth C m sp [] (WE W σ) ta t σ H Q) := by
  obtain ⟨f, hm, F⟩ := M.ex
  refine ⟨fun pins s σ H Q I h => ?_⟩
  refine PySem.W.methodCall_KW (pl := pl) (thn (he.run pins s σ H _ I h) fun u s1 ⟨x, H1, I1, rx, a, dx, fs, ex, ea, l, q⟩ => ?_) ht
  subst ex
  obtain rfl : u = Value.ref a := rx
  refine getmeth_ok I1 ea M.c hm l ?_
  refine PySem.W.callWith_K (first := [.ref a]) (h₀ := X.base) I.ok.mod.kin hm.kp (thn (ha.run pos pins s1 σ H1 _ I1 q) fun us s2 ⟨vs, H2, I2, r, q2⟩ => ⟨I2.kIn, ?_⟩) hst hpl
  exact run_fnRS (E := WE W) (us := .ref a :: us) (vs := .ref a :: vs) F hr (L2N.passAt tk σ) I2 (.cons rfl r) (by dsimp only at q2; rw [List.append_nil] at q2; exact q2)
theorem pe_mRS0 {pl : Sem Bool} {W : WX} (M : MetR (L2N.CX X.prog X.w) X.prog X.w X.K X.mg X.base C m k sp) (hr : Room k X.A) (tk : L2N.Takes X W) (he : PE X o ta)
    (ht : eval (.Call (.Attribute o m apos) [] [] pos) X.env = (do
      let ov ← eval o X.env
      standAt apos.atName
      let (f, first) ← holding [ov] (getMethod ov m pl)
      callWith pos f first (backTo pos (starEach [] X.env)) (backToKw pos (keywordEach [] X.env))) := by rfl) :
    PE X (.Call (.Attribute o m apos) [] [] pos) (fun σ H Q => tMeth C m sp [] (WE W σ) ta tNil σ H Q) := by
  obtain ⟨f, hm, F⟩ := M.ex
  refine ⟨fun pins s σ H Q I h => ?_⟩
  refine PySem.W.methodCall_KW (pl := pl) (thn (he.run pins s σ H _ I h) fun u s1 ⟨x, H1, I1, rx, a, dx, fs, ex, ea, l, q⟩ => ?_) ht
  subst ex
  obtain rfl : u = Value.ref a := rx
  refine getmeth_ok I1 ea M.c hm l ?_
  exact PySem.W.callWith_K0 (first := [.ref a]) I1.kIn hm.kp (run_fnRS (E := WE W) (us := [.ref a]) (vs := [.ref a]) F hr (L2N.passAt tk σ) I1 (.cons rfl .nil) q)
theorem Met.r {CX : CXT} {P : Program} {w : World} {K : PySem.W.Frag} {mg : Str → Option Value} {base : Heap} {C : Addr} {m : Str} {k : Nat} {ps : List Str} {sp : Sp} (M : Met CX P w K mg base C m k ps sp) : MetR CX P w K mg base C m k sp := by
  obtain ⟨f, fd, hm, bi, F⟩ := M.ex
  exact ⟨M.c, f, hm, (F.raw bi .nil).imp fun vs H Q E h => by rw [List.append_nil]; exact h⟩
/-- C(..) in a try -/
theorem run_makeS {us : List Value} {vs : List V} (M : Mk X.K C f) (F : FnOk X.prog X.w X.K X.mg X.base CX k f fd ps sp) (hr : Room (k + 1) X.A) (hb : Binds X.K fd ps ds) (hd : Vals dvs ds) (hx : PassesAt CX X σ (E σ)) (I : Inv X pins σ H s) (r : Vals vs us)
    (h : ∀ x dx, H x = none → H dx = none → dx ≠ x → sp (.ref x :: (vs ++ dvs)) (upd (upd H dx (.own x)) x (.ins C dx [])) (fun v H2 => v = .non ∧ Q (.ref x) H2) (E σ)) :
    wpAny (model X.prog X.w) X.A (call (.ref C) us) (EP X pins σ Q) X.xe s := by
  have hq := h (s.heap.objs.size + 1) s.heap.objs.size (I.hok.fresh (Nat.le_succ _)) (I.hok.fresh (Nat.le_refl _)) (Nat.ne_of_lt (Nat.lt_succ_self _))
  have I2 := Inv.made (C := C) I
  have r2 : Vals (V.ref (s.heap.objs.size + 1) :: (vs ++ dvs)) (Value.ref (s.heap.objs.size + 1) :: (us ++ ds)) := .cons rfl (r.append hd)
  have hl : (Value.ref (s.heap.objs.size + 1) :: us ++ ds).length = ps.length := by
    have e := r2.length
    rw [F.len _ _ _ _ hq] at e
    exact e.symm
  refine wpAny_call (make_map (f := f) I.kIn M.makes M.init (beq_iff_eq.mp M.fn) (codeAny_mono (F.run _ X.stack _ _ ⟨Value.ref (s.heap.objs.size + 1) :: us, []⟩ (Value.ref (s.heap.objs.size + 1) :: (us ++ ds)) _ _ (E σ) (hr.make C us [])
    (I2.env0.make C us []) (hb _ (Value.ref (s.heap.objs.size + 1) :: us) I2.kIn hl) r2 hq) fun r s' hq' => ?_))
  cases r with
  | error e => exact hx pins _ _ e s' I2 hq'
  | ok fl =>
    cases fl with
    | ret u =>
      obtain ⟨v, H', I3, rv, ev, q3⟩ := I2.after hq'
      subst ev
      exact ⟨rv, ⟨V.ref (s.heap.objs.size + 1), H', I3, rfl, q3⟩⟩
    | next => exact False.elim hq'
    | brk => exact False.elim hq'
    | cont => exact False.elim hq'
theorem pe_mkS {W : WX} (M : Mak X.prog X.w X.K X.mg X.base x C k ps dvs sp) (hr : Room (k + 1) X.A) (tk : L2N.Takes X W) (hg : Gl X x) (ha : PA X (e :: es) t) (hdb : (x == ("__debug__" : Str)) = false := by decide)
    (he : starEach (e :: es) X.env = (false, eval e X.env) :: starEach es X.env := by rfl) (hpl : (backTo pos (starEach es X.env)).any (·.1) = false := by rfl) : PE X (.Call (.Name x p) (e :: es) [] pos) (fun σ H Q => tMake C sp dvs (WE W σ) t σ H Q) := by
  obtain ⟨f, fd, ds, hm, bi, hd, F⟩ := M.ex
  refine ⟨fun pins s σ H Q I h => ?_⟩
  refine wpAny_Call_Name_kw (ld_glob I hg M.g ?_ hdb)
  refine PySem.W.callWith_K (h₀ := X.base) I.ok.mod.kin hm.kp (thn (ha.run pos pins s σ H _ I h) fun us s1 ⟨vs, H1, I1, r, q⟩ => ⟨I1.kIn, ?_⟩) he hpl
  exact run_makeS (E := WE W) hm F hr bi hd (L2N.passAt tk σ) I1 r q
/-- a op b, own operators, in a try -/
theorem pe_binS {op : Operator} {W : WX} (nm : Str) (hnm : PySem.dunder op.info.2 = nm) (M : Met (L2N.CX X.prog X.w) X.prog X.w X.K X.mg X.base C nm k ps sp) (hc : PySem.W.selfFirst X.K C = true) (hr : Room k X.A) (tk : L2N.Takes X W) (ha : PE X a ta) (hb : PE X b tb) :
    PE X (.BinOp a op b pos) (fun σ H Q => tOp (rBinOwn C sp (WE W σ)) ta tb σ H Q) := by
  refine ⟨fun pins s σ H Q I h => ?_⟩
  refine wpAny_BinOp (binT ha hb I h fun v u s2 x y H2 I2 rx ry q => ?_)
  obtain ⟨a, dx, fs, b, dy, gs, rfl, rfl, ha, hb, hq⟩ := q
  obtain ⟨f, fd, hm, bi, F⟩ := M.ex
  obtain rfl : v = Value.ref a := rx
  obtain rfl : u = Value.ref b := ry
  obtain ⟨mA, J, _⟩ := ins_get I2.hok ha
  obtain ⟨mB, J', _⟩ := ins_get I2.hok hb
  obtain ⟨od, J, _⟩ := J.look
  obtain ⟨od', J', _⟩ := J'.look
  obtain ⟨m, hF⟩ := I2.fr
  refine PySem.W.binop_K (op := op) hF I2.ok.mod.kin J J'.type hc (by rw [hnm]; exact hm.at_) hm.fn ?_
  refine wpAny_mono (run_fnS (E := WE W) (us := [.ref a, .ref b]) (vs := [.ref a, .ref b]) F hr bi (L2N.passAt tk σ) I2 (.cons rfl (.cons rfl .nil)) hq) (fun r s' hr' => ?_) fun _ _ z => z
  cases r with
  | notImplemented =>
    obtain ⟨x', H', I', rx', q⟩ := hr'
    cases x' <;> first | (cases rx'; done) | (obtain ⟨t, h⟩ := rx'; cases h)
  | _ => exact hr'
end
theorem takes0N {X : Cx} : L2N.Takes X (fun _ _ _ _ => False) := fun u s' ⟨_, _, _, _, _, _, _, _, _, _, _, _, _, _, _, _, w⟩ => w.elim
/-! ### clauses -/
section
variable {K : PySem.W.Frag} {i : Nat} {Wout : WX} {D : Ends} {c cls : Value} {ts : Addr → Value → Option Addr → TS} {l : List Cl} {d : Option Addr} {σ : L2.St} {H : Hp}
theorem wcls_hit (h : PySem.W.exmOne K cls c = some true) (k : ∀ a, ts a cls d (gone i D) (σ.set i (some (.ref a))) H) : wCls K i Wout D ((c, ts) :: l) cls d σ H := ⟨true, h, fun _ a _ => k a, fun z => nomatch z⟩
theorem wcls_miss (h : PySem.W.exmOne K cls c = some false) (k : wCls K i Wout D l cls d σ H) : wCls K i Wout D ((c, ts) :: l) cls d σ H := ⟨false, h, fun z => (nomatch z), fun _ => k⟩
end
section
variable {K : PySem.W.Frag} {env : Env K} {os : Os} {b : Bs} {g h : Hp} {σ : L2.St} {i : Nat} {d C : Addr} {ws : List (Str × V)} {fs : List (Str × Slot K)}
theorem S0.caught (s : S0 b g h σ env os) (hd : h d = none) (hf : FsR g ws fs) (a : Addr) : S0 b (upd g d (.xd ws)) (upd h d (.xd ws)) (σ.set i (some (.ref a))) (env.set i (sv (Xcp.mk (fs := fs) a d C))) os :=
  (s.le (Le.laid s.gh hd (o := .xd ws))).set ⟨_, rfl, rfl, ws, upd_same, fsr_mono (Le.laid s.gh hd).gg hf⟩
end
section
variable {K : PySem.W.Frag} {α β γ : Type} [iα : Py K α] [iβ : Py K β] [iγ : Py K γ] {env : Env K} {os : Os} {b : Bs} {g h : Hp} {σ : L2.St} {ta tb tc : TE} {Q : VK}
/-- (e, f), the second part by what it may do -/
theorem s_pairX {x : α} {PY : β → Prop} (s : S0 b g h σ env os) (ha : Ev ta env os x) (hb : ∀ g1 h1 (Q1 : VK), S0 b g1 h1 σ env os → Same g g1 → (∀ w y g2 h2, PY y → S0 b g2 h2 σ env os → Same g1 g2 → iβ.R g2 w y → Q1 w h2) → tb σ h1 Q1)
    (k : ∀ v y g' h', PY y → S0 b g' h' σ env os → Same g g' → (instPair (i := iα) (j := iβ)).R g' v (x, y) → Q v h') : tTup (tCons ta (tCons tb tNil)) σ h Q :=
  ha s fun v g1 h1 l1 r1 => hb g1 h1 _ (s.le l1) l1.gg fun w y g2 h2 hy s2 e2 r2 => ⟨by show 2 ≤ sizeLine; decide, fun p hp => by
    have le := Le.laid (o := .tup [v, w]) s2.gh hp
    exact k _ y (upd g2 p (.tup [v, w])) _ hy (s2.le le) ((l1.gg.trans e2).trans le.gg) ⟨p, v, w, rfl, upd_same, iα.mono (e2.trans le.gg) r1, iβ.mono le.gg r2⟩⟩
/-- (e, f, g), the second part by what it may do -/
theorem s_triX {x : α} {z : γ} {PY : β → Prop} (s : S0 b g h σ env os) (ha : Ev ta env os x) (hb : ∀ g1 h1 (Q1 : VK), S0 b g1 h1 σ env os → Same g g1 → (∀ w y g2 h2, PY y → S0 b g2 h2 σ env os → Same g1 g2 → iβ.R g2 w y → Q1 w h2) → tb σ h1 Q1) (hc : Ev tc env os z)
    (k : ∀ v y g' h', PY y → S0 b g' h' σ env os → Same g g' → (instTri (iα := iα) (iβ := iβ) (iγ := iγ)).R g' v (Tri.mk x y z) → Q v h') : tTup (tCons ta (tCons tb (tCons tc tNil))) σ h Q :=
  ha s fun v g1 h1 l1 r1 => hb g1 h1 _ (s.le l1) l1.gg fun w y g2 h2 hy s2 e2 r2 => hc s2 fun u g3 h3 l3 r3 => ⟨by show 3 ≤ sizeLine; decide, fun p hp => by
    have le := Le.laid (o := .tup [v, w, u]) l3.gh hp
    exact k _ y (upd g3 p (.tup [v, w, u])) _ hy ((s2.le l3).le le) (((l1.gg.trans e2).trans l3.gg).trans le.gg) ⟨p, v, w, u, rfl, upd_same, iα.mono ((e2.trans l3.gg).trans le.gg) r1, iβ.mono (l3.gg.trans le.gg) r2, iγ.mono le.gg r3⟩⟩
end
end Lw
/-! One wake of a generator: its code up to the next item or its end. -/
namespace Lw
open PySem PySem.Spec PyProof.Rows L2 GenW
/-- from here the woken code runs to an end that Z knows: an item is handed out, or it is over -/
def Wk (M : Model) (A : Around) (Z : PySem.End → Shared → Prop) (c : Code) (t : Sem PySem.Fin) (fs : List Frame) (s : Shared) : Prop :=
  ∀ (G : PySem.Ctx) (p : Pos), G.code = c → G.Woken A → ∃ e s', Runs M G p t fs s e s' ∧ Z e s'
section
variable {M : Model} {A : Around} {Z : PySem.End → Shared → Prop} {c : Code} {fs : List Frame} {s : Shared}
theorem wk_wrap {α : Type} {m : Sem α} {K : α → Sem PySem.Fin} {J : Value → Sem PySem.Fin} {gd : Bool → Bool} {lv : List Value → List Value}
    (h : wpAny M (A.over c fs) m (fun a s' => Wk M A Z c (K a) fs s') (fun x s' => Wk M A Z c (J x) fs s') s) : Wk M A Z c (m.wrap K J gd lv) fs s := by
  intro G p hc hG
  subst hc
  exact runs_wrap_of_wp K J gd lv m (h _ p (hG.over fs)) (fun _ q _ z => z G q rfl hG) fun _ q _ z => z G q rfl hG
theorem wk_bind {α β : Type} {m : Sem α} {f : α → Sem β} {K : β → Sem PySem.Fin} {J : Value → Sem PySem.Fin} {gd : Bool → Bool} {lv : List Value → List Value}
    (h : wpAny M (A.over c fs) m (fun a s' => Wk M A Z c ((f a).wrap K J gd lv) fs s') (fun x s' => Wk M A Z c (J x) fs s') s) : Wk M A Z c ((m >>= f).wrap K J gd lv) fs s := by
  rw [Sem.bind_eq_wrap', Sem.wrap_wrap]
  exact wk_wrap h
/-- where nothing is raised -/
theorem wk_wrapN {α : Type} {m : Sem α} {K : α → Sem PySem.Fin} {J : Value → Sem PySem.Fin} {gd : Bool → Bool} {lv : List Value → List Value}
    (h : wpAny M (A.over c fs) m (fun a s' => Wk M A Z c (K a) fs s') (fun _ _ => False) s) : Wk M A Z c (m.wrap K J gd lv) fs s :=
  wk_wrap (wpAny_mono h (fun _ _ q => q) fun _ _ q => q.elim)
theorem wk_bindN {α β : Type} {m : Sem α} {f : α → Sem β} {K : β → Sem PySem.Fin} {J : Value → Sem PySem.Fin} {gd : Bool → Bool} {lv : List Value → List Value}
    (h : wpAny M (A.over c fs) m (fun a s' => Wk M A Z c ((f a).wrap K J gd lv) fs s') (fun _ _ => False) s) : Wk M A Z c ((m >>= f).wrap K J gd lv) fs s :=
  wk_bind (wpAny_mono h (fun _ _ q => q) fun _ _ q => q.elim)
theorem wk_call {c1 : Code} {hd : Option Value} {g : Bool} {l : List Value} {k : Result → Sem PySem.Fin} (h : ∀ p, Wk M A Z c1 (M.den c1) (.ret k hd g l c p [] :: fs) s) : Wk M A Z c (.call c1 hd g l k) fs s := by
  intro G p hc hG
  subst hc
  obtain ⟨e, s', hr, he⟩ := h p (G.goto c1) p rfl (hG.goto c1)
  exact ⟨e, s', runs_call_seg hr, he⟩
theorem wk_leaf {k : Result → Sem PySem.Fin} {hd : Option Value} {g : Bool} {l kp : List Value} {c1 : Code} {p1 : Pos} (r : Result) (h : Wk M A Z c1 (k r) fs s) : Wk M A Z c (leafOf r) (.ret k hd g l c1 p1 kp :: fs) s := by
  intro G p hc hG
  subst hc
  obtain ⟨e, s', hr, he⟩ := h (G.goto c1) p1 rfl (hG.goto c1)
  exact ⟨e, s', Runs.pop r hr, he⟩
theorem wk_again {c1 : Code} (q : c1.quiet = true) (h : Wk M A Z c1 (M.den c1) fs s) : Wk M A Z c (.pure (.again c1)) fs s := by
  intro G p hc hG
  subst hc
  obtain ⟨e, s', hr, he⟩ := h (G.goto c1) p rfl (hG.goto c1)
  exact ⟨e, s', Runs.head (c₁ := c1) (fun _ _ x => .again q x) hr, he⟩
theorem wk_end (r : Result) (h : Z (.ret r) s) : Wk M A Z c (leafOf r) [] s := fun G p hc _ => ⟨.ret r, s, Runs.leaf r, h⟩
theorem wk_yield {v : Value} {l : List Value} {k : Resume → Sem PySem.Fin} (hs : splitAtGen fs = none) (h : ∀ p, Z (.susp v false l k c p fs) s) : Wk M A Z c (.yield v false l k) fs s := by
  intro G p hc _
  subst hc
  exact ⟨_, s, Runs.yield' fs hs, h p⟩
variable {env : PySem.Env} {K : Flow → Sem PySem.Fin} {J : Value → Sem PySem.Fin} {gd : Bool → Bool} {lv : List Value → List Value}
theorem wk_cons {st : Stmt} {rest : List Stmt} (h : Wk M A Z c ((exec st env).wrap (fun f => match f with | .next => (execs rest env).wrap K J gd lv | f => K f) J gd lv) fs s) :
    Wk M A Z c ((execs (st :: rest) env).wrap K J gd lv) fs s := by
  rw [execs_cons_wrap]
  exact h
/-- yield e, as a statement -/
theorem wk_yieldS {e : Expr} {yp pos : Pos} (hs : splitAtGen fs = none) (hg : gd false = false)
    (h : wpAny M (A.over c fs) (eval e env) (fun v s' => ∀ (k : Resume → Sem PySem.Fin) (l : List Value) (p : Pos), (∀ (Z' : PySem.End → Shared → Prop) s2, Wk M A Z' c (K .next) fs s2 → Wk M A Z' c (k (.send .none)) fs s2) → Z (.susp v false l k c p fs) s') (fun _ _ => False) s)
    (hco : env.scope.isCoroutine = false := by rfl) (hi : interactive env = false := by rfl) : Wk M A Z c ((exec (.Expr (.Yield (some e) yp) pos) env).wrap K J gd lv) fs s := by
  rw [exec_Expr env _ pos hi rfl]
  have hy : ∀ v, yieldOut env v = yieldValue v := fun v => by simp only [yieldOut, hco, Bool.false_eq_true, if_false]
  show Wk M A Z c ((standAt pos >>= fun _ => ((eval e env >>= fun v => (standAt yp >>= fun _ => yieldOut env v)) >>= fun x => dropValue (.Yield (some e) yp) pos x)).wrap K J gd lv) fs s
  refine wk_bindN (wpAny_standAt ?_)
  simp only [hy]
  rw [Sem.bind_eq_wrap' (eval e env >>= _), Sem.wrap_wrap]
  refine wk_bindN (wpAny_mono h (fun v s' q => ?_) fun _ _ z => z)
  refine wk_bindN (wpAny_standAt ?_)
  show Wk M A Z c (.yield v (gd false) _ _) fs s'
  rw [hg]
  exact wk_yield hs fun p => q _ _ p fun Z' s2 z => z
end
end Lw
/-! A generator that sleeps: what its wakes lean on, what they leave. -/
namespace Lw
open PySem PySem.Spec PyProof.Rows L2 GenW
/-! ### for within a wake -/
section
variable {M : Model} {A : Around} {Z : PySem.End → Shared → Prop} {c : Code} {fs : List Frame} {s : Shared} {env : PySem.Env} {K : Flow → Sem PySem.Fin} {J : Value → Sem PySem.Fin} {gd : Bool → Bool} {lv : List Value → List Value}
theorem wk_For {target iter : Expr} {body : List Stmt} {pos : Pos}
    (h : wpAny M (A.over c fs) (eval iter env) (fun xv s1 => wpAny M (A.over c fs) (pyIter xv) (fun it s2 => ∀ (k : Result → Sem PySem.Fin) (l : List Value) (p : Pos),
      (∀ (Z' : PySem.End → Shared → Prop) c1 s3, Wk M A Z' c (K .next) fs s3 → Wk M A Z' c1 (.pure (.done .next)) (.ret k none (gd false) l c p [] :: fs) s3) →
      Wk M A Z (.forLoop target it body [] env) (M.den (.forLoop target it body [] env)) (.ret k none (gd false) l c p [] :: fs) s2) (fun _ _ => False) s1) (fun _ _ => False) s)
    (hs : ∀ x, foldedSetIterable iter env x = pure x := by intro _; rfl) : Wk M A Z c ((exec (.For target iter body [] pos) env).wrap K J gd lv) fs s := by
  rw [exec_For]
  refine wk_bindN (wpAny_standAt ?_)
  refine wk_bindN (wpAny_mono h (fun xv s1 h1 => ?_) fun _ _ x => x)
  rw [hs]
  refine wk_bindN (wpAny_pure ?_)
  refine wk_bindN (wpAny_standAt ?_)
  refine wk_bindN (wpAny_holding (wpAny_mono h1 (fun it s2 h2 => ?_) fun _ _ x => x))
  refine wk_call fun p => h2 _ _ p fun Z' c1 s3 q => ?_
  exact wk_leaf (.ok .next) q
end
section
variable {prog : Program} {w : World} {A : Around} {Z : PySem.End → Shared → Prop} {fs : List Frame} {s : Shared} {env : PySem.Env}
theorem wk_turn {target : Expr} {it : Value} {body : List Stmt}
    (h : wpAny (model prog w) (A.over (.forLoop target it body [] env) fs) (pyNext it) (fun r s1 => match r with
      | none => Wk (model prog w) A Z (.block [] env) (.pure (.done .next)) fs s1
      | some v => wpAny (model prog w) (A.over (.forLoop target it body [] env) fs) (letOwnedTupleGo target it v) (fun _ s2 => wpAny (model prog w) (A.over (.forLoop target it body [] env) fs) (assign target env v) (fun _ s3 =>
          ∀ (K : Flow → Sem PySem.Fin) (J : Value → Sem PySem.Fin), K .next = .pure (.again (.forLoop target it body [] env)) → Wk (model prog w) A Z (.forLoop target it body [] env) ((execs body env).wrap K J id id) fs s3) (fun _ _ => False) s2) (fun _ _ => False) s1) (fun _ _ => False) s) :
    Wk (model prog w) A Z (.forLoop target it body [] env) ((model prog w).den (.forLoop target it body [] env)) fs s := by
  show Wk _ A Z _ ((forTurn target it body [] env).onRaise (fun x => do noteFrame x env; theTreesLotGoes x)) fs s
  unfold forTurn
  rw [Sem.onRaise_eq_wrap]
  refine wk_bindN (wpAny_standAt ?_)
  refine wk_bindN (wpAny_onRaise (wpAny_mono h (fun r s1 h1 => ?_) fun _ _ x => x.elim))
  cases r with
  | none => exact wk_again rfl h1
  | some v =>
    refine wk_bindN (wpAny_mono h1 (fun _ s2 h2 => ?_) fun _ _ x => x)
    refine wk_bindN (wpAny_mono h2 (fun _ s3 h3 => ?_) fun _ _ x => x)
    rw [Sem.bind_eq_wrap', Sem.wrap_wrap]
    exact h3 _ _ rfl
end
/-! ### sleeping -/
abbrev Pv := List (Addr × Obj)
/-- no table with tuples as keys -/
def NoT : HO → Prop
  | .dT _ => False
  | .frz _ u => NoT u
  | _ => True
theorem ObjOk.sub {P : Program} {w : World} {G H : Hp} {h0 h : Heap} {a : Addr} {o : HO} (x : ObjOk P w G h0 a o) (y : ObjOk P w H h a o) (n : NoT o) : ObjOk P w G h a o := by
  induction o with
  | ins C dx fs => exact ⟨x.1, y.2⟩
  | dT kvs => exact n.elim
  | frz ob u ih => exact ⟨y.1, ih x.2 y.2 n⟩
  | _ => exact y
/-- what the others leave as it is while a generator sleeps -/
structure WakeQ (P : Program) (w : World) (base : Heap) (outer : List PySem.Env) (G : Hp) (pv : Pv) (s : Shared) : Prop where
  bare : AllBare s.gens
  bs : ∀ b o, base.get? b = some o → s.heap.get? b = some o
  fun_ : s.heap.FunFrames base outer
  hok : HOk P w G s.heap
  pv : ∀ p ∈ pv, s.heap.get? p.1 = some p.2
/-- what a wake leaves of all others' -/
structure StepQ (P : Program) (w : World) (outer : List PySem.Env) (G : Hp) (pv : Pv) (s0 s1 : Shared) : Prop where
  os : s1.os = s0.os
  bare : AllBare s1.gens
  keep : ∀ b o, s0.heap.get? b = some o → b ∉ frs outer → (∀ p ∈ pv, p.1 ≠ b) → G b = none → s1.heap.get? b = some o
  slot : ∀ b o, s0.heap.get? b = some o → b ∈ frs outer → ∃ sl, s1.heap.get? b = some { o with slots := sl }
  there : ∀ b o, s0.heap.get? b = some o → (∀ p ∈ pv, p.1 ≠ b) → ∃ o', s1.heap.get? b = some o'
  hok : HOk P w G s1.heap
/-- the generator's own objects, as they lie asleep -/
structure PvOk (lo : Addr) (q : Addr × Obj) (pv0 : Pv) (s0 : Shared) (pv : Pv) (s : Shared) : Prop where
  gen : q ∈ pv
  old : ∀ p ∈ pv, p.1 ∈ pv0.map (·.1) ∨ s0.heap.get? p.1 = none
  at_ : ∀ p ∈ pv, s.heap.get? p.1 = some p.2
  lo : ∀ p ∈ pv, lo ≤ p.1
  cell : ∀ p ∈ pv, ∀ v, p.2.data ≠ .cell v
def Goes1 (M : Model) (A : Around) (Z : PySem.End → Shared → Prop) : GenState → Shared → Prop
  | .fresh c, s => Wk M A Z c (M.den c) [] s
  | .suspended k _ c _ fs _, s => Wk M A Z c (k (.send .none)) fs s
  | _, _ => False
/-- the ends of a wake: the next of xs is handed out, behind the last it is over -/
def Slp (P : Program) (w : World) (A : Around) (base : Heap) (outer : List PySem.Env) (G : Hp) (lo : Addr) (q : Addr × Obj) : List V → Pv → GenState → Prop
  | [], pv, gs => ∀ s0, WakeQ P w base outer G pv s0 → Goes1 (model P w) A (fun e s1 => (e = .ret (.ok (.ret .none)) ∨ e = .ret (.ok .next)) ∧ StepQ P w outer G pv s0 s1) gs s0
  | x :: xs, pv, gs => ∀ s0, WakeQ P w base outer G pv s0 → Goes1 (model P w) A (fun e s1 => ∃ v l k c p fs, e = .susp v false l k c p fs ∧ e.quiet = true ∧ RelV x v ∧ StepQ P w outer G pv s0 s1 ∧
      ∃ pv', PvOk lo q pv s0 pv' s1 ∧ Slp P w A base outer G lo q xs pv' e.genState) gs s0
def ZZ (P : Program) (w : World) (A : Around) (base : Heap) (outer : List PySem.Env) (G : Hp) (lo : Addr) (q : Addr × Obj) (xs : List V) (pv : Pv) (s0 : Shared) (e : PySem.End) (s1 : Shared) : Prop := match xs with
  | [] => (e = .ret (.ok (.ret .none)) ∨ e = .ret (.ok .next)) ∧ StepQ P w outer G pv s0 s1
  | x :: xs => ∃ v l k c p fs, e = .susp v false l k c p fs ∧ e.quiet = true ∧ RelV x v ∧ StepQ P w outer G pv s0 s1 ∧ ∃ pv', PvOk lo q pv s0 pv' s1 ∧ Slp P w A base outer G lo q xs pv' e.genState
theorem slp_iff {P : Program} {w : World} {A : Around} {base : Heap} {outer : List PySem.Env} {G : Hp} {lo : Addr} {q : Addr × Obj} {xs : List V} {pv : Pv} {gs : GenState} :
    Slp P w A base outer G lo q xs pv gs ↔ ∀ s0, WakeQ P w base outer G pv s0 → Goes1 (model P w) A (ZZ P w A base outer G lo q xs pv s0) gs s0 := by
  cases xs <;> exact Iff.rfl
/-! ### the context, anew at each wake -/
def reX (X : Cx) (s : Shared) (H : Hp) : Cx := { X with s_0 := s, H_0 := H }
def trH (n : Nat) (h : Heap) : Heap := { h with objs := h.objs.take n }
theorem trH_get {n : Nat} {h : Heap} {b : Addr} (hb : b < n) : (trH n h).get? b = h.get? b := by
  have q : (h.objs.take n)[b]? = h.objs[b]? := by
    rw [Array.take_eq_extract]
    by_cases z : b < h.objs.size
    · rw [Array.getElem?_extract, if_pos (by rw [Nat.sub_zero]; exact Nat.lt_min.mpr ⟨hb, z⟩), Nat.zero_add]
    · rw [Array.getElem?_eq_none (Nat.not_lt.mp z), Array.getElem?_eq_none (by rw [Array.size_extract, Nat.sub_zero]; exact Nat.le_trans (Nat.min_le_right _ _) (Nat.not_lt.mp z))]
  unfold trH Heap.get?
  dsimp only
  rw [q]
theorem trH_lt {n : Nat} {h : Heap} {b : Addr} {o : Obj} (e : (trH n h).get? b = some o) : b < n := by
  have q := Heap.lt_size e
  have z : (trH n h).objs.size ≤ n := by unfold trH; simp [Array.take_eq_extract]; omega
  exact Nat.lt_of_lt_of_le q z
theorem trH_size {n : Nat} {h : Heap} (q : n ≤ h.objs.size) : (trH n h).objs.size = n := by unfold trH; simp [Array.take_eq_extract]; omega
theorem trH_of {n : Nat} {h : Heap} {b : Addr} {o : Obj} (e : (trH n h).get? b = some o) : h.get? b = some o := by rw [← trH_get (trH_lt e)]; exact e
def trS (X : Cx) (s : Shared) : Shared := { s with heap := trH X.env.locals s.heap }
/-- what is told at a wake: G's own, and all that is younger, as it lies -/
def tellW (X : Cx) (G : Hp) (pv : Pv) (h : Heap) : Hp := fun c => if c < X.env.locals then G c else if c ∈ pv.map (·.1) then none else (h.get? c).map fun o => .ext fun h' => h'.get? c = some o
structure GX (X : Cx) (G : Hp) : Prop where
  ex : X.ex = []
  pn : X.pn = []
  stk : X.stack = X.env :: X.outer ∧ X.env.frame = some X.env.locals
  nocell : ∀ x, X.env.cells.lookup x = none
  gl : ∀ b, G b ≠ none → b < X.env.locals
  gf : ∀ b ∈ frs X.outer, G b = none
  gb : ∀ b o, X.base.get? b = some o → G b = none
  nt : ∀ b o, G b = some o → NoT o
section
variable {X : Cx} {G : Hp} {ip : List (Addr × Obj)} {pv : Pv} {σ : L2.St} {Hb H1 : Hp} {sb s0 s1 s2 : Shared}
theorem tell_lt {h : Heap} {c : Addr} (q : c < X.env.locals) : tellW X G pv h c = G c := if_pos q
theorem tell_hok (g : GX X G) {P : Program} {w : World} {h : Heap} (k : HOk P w G h) : HOk P w (tellW X G pv h) h := fun c o e => by
  by_cases q : c < X.env.locals
  · rw [tell_lt q] at e
    refine (k c o e).stay (fun _ _ _ z => z) (fun b z => ?_) fun b xs z => ?_
    · rw [tell_lt (g.gl b (some_ne_none z))]; exact z
    · rw [tell_lt (g.gl b (some_ne_none z))]; exact z
  · unfold tellW at e
    rw [if_neg q] at e
    split at e
    · exact nomatch e
    · obtain ⟨ob, h1, h2⟩ := Option.map_eq_some_iff.mp e
      subst h2
      exact ⟨h1, ⟨ob, h1⟩, fun h1 h2 a b => b ob a⟩
theorem frs_lt {l : List PySem.Env} {h base : Heap} (f : h.FunFrames base l) : ∀ b ∈ frs l, b < h.objs.size := fun b hb => by
  obtain ⟨_, o, ho, _⟩ := f.mem hb
  exact Heap.lt_size ho
theorem fun_tr {n : Nat} {h base : Heap} : ∀ {l : List PySem.Env}, h.FunFrames base l → (∀ b ∈ frs l, b < n) → (trH n h).FunFrames base l
  | [], _, _ => trivial
  | env :: r, ⟨k, ⟨L, o, e1, e2, e3, e4⟩, q⟩, z => ⟨k, ⟨L, o, e1, e2, by
      rw [trH_get (z L (by unfold frs; rw [List.filterMap_cons, e1]; exact List.mem_cons_self))]; exact e3, e4⟩,
    fun_tr q fun b hb => z b (by unfold frs at hb ⊢; rw [List.filterMap_cons, e1]; exact List.mem_cons_of_mem _ hb)⟩
/-- WOKEN -/
theorem wake_inv (g : GX X G) (I : Inv (reX X sb Hb) ip σ H1 s1) (W : WakeQ X.prog X.w X.base X.outer G pv s2) (hl : ∃ ol, s1.heap.get? X.env.locals = some ol ∧ (X.env.locals, ol) ∈ pv)
    (hip : ∀ p ∈ ip, p ∈ pv ∧ X.env.locals ≤ p.1) (hh : s2.os = s2.os) : Inv (reX X (trS X s2) (tellW X G pv s2.heap)) ip σ (tellW X G pv s2.heap) s2 := by
  obtain ⟨ol, el, ml⟩ := hl
  have e2 : s2.heap.get? X.env.locals = some ol := W.pv _ ml
  have n2 : X.env.locals ≤ s2.heap.objs.size := Nat.le_of_lt (Heap.lt_size e2)
  have ok := I.ok
  have sbl : sb.heap.objs.size ≤ X.env.locals := ok.above
  have frl : ∀ b ∈ frs X.outer, b < X.env.locals := fun b hb => Nat.lt_of_lt_of_le (frs_lt ok.funs b hb) sbl
  have bl : X.base.objs.size ≤ X.env.locals := Nat.le_trans ok.bsz sbl
  have hfree : tellW X G pv s2.heap X.env.locals = none := by
    unfold tellW
    rw [if_neg (Nat.lt_irrefl _), if_pos (List.mem_map.mpr ⟨_, ml, rfl⟩)]
  refine ⟨⟨ok.mod, ok.kind, ok.glob, ok.blt, ?_, ok.inj, ok.has, ?_, ok.hd, ok.frames, ok.stk, ?_, ?_, ?_, ?_, ?_, ?_, ?_⟩, rfl, W.bare, ⟨?_, ?_, ?_, ?_, ?_, ?_, ?_⟩, ?_, ?_, hfree, ?_, ?_, tell_hok g W.hok, I.len⟩
  · exact Nat.le_of_eq (trH_size n2)
  · exact fun x c _ e => absurd e (by rw [show (reX X (trS X s2) _).env.cells.lookup x = none from g.nocell x]; exact fun z => nomatch z)
  · exact fun b hb => absurd (show b ∈ X.ex from hb) (by rw [g.ex]; exact fun z => nomatch z)
  · intro b o e
    have q : b < X.env.locals := Nat.lt_of_lt_of_le (Heap.lt_size e) bl
    exact ⟨(trH_get q).trans (W.bs b o e), (tell_lt q).trans (g.gb b o e)⟩
  · exact Nat.le_trans bl (Nat.le_of_eq (trH_size n2).symm)
  · exact fun b o _ hb => absurd (show b ∈ X.ex from hb) (by rw [g.ex]; exact fun z => nomatch z)
  · exact fun b hb => absurd (show b ∈ X.ex from hb) (by rw [g.ex]; exact fun z => nomatch z)
  · exact fun_tr W.fun_ frl
  · exact fun b hb => (tell_lt (frl b hb)).trans (g.gf b hb)
  · exact fun b o e _ _ _ => trH_of e
  · exact fun b o e _ _ _ => ⟨o.slots, trH_of e⟩
  · exact fun b o e n _ => n
  · exact fun b o e _ => ⟨o, trH_of e⟩
  · exact fun b xs e => e
  · exact fun b o u e => e
  · exact fun b ps e => ⟨#[], e.trans (by simp)⟩
  · obtain ⟨m, ⟨o, es, ep, ho, r⟩, lk⟩ := I.loc
    have eo : o = ol := by
      have q : s1.heap.get? X.env.locals = some o := ho
      rw [el] at q
      exact (Option.some.inj q).symm
    subst eo
    refine ⟨m, ⟨o, es, ep, e2, r⟩, fun i x v a b c => ?_⟩
    obtain ⟨u, ru, q⟩ := lk i x v a b c
    refine ⟨u, ru, ?_⟩
    rcases q with q | ⟨_, c, e, _⟩
    · exact .inl q
    · exact absurd e (by rw [show (reX X sb Hb).env.cells.lookup x = none from g.nocell x]; exact fun z => nomatch z)
  · exact fun x c e => absurd e (by rw [show (reX X (trS X s2) _).env.cells.lookup x = none from g.nocell x]; exact fun z => nomatch z)
  · exact fun x c e => absurd e (by rw [show (reX X (trS X s2) _).env.cells.lookup x = none from g.nocell x]; exact fun z => nomatch z)
  · intro p hp
    have hp' : p ∈ ip := by
      rcases List.mem_append.mp hp with z | z
      · exact absurd (show p ∈ X.pn from z) (by rw [g.pn]; exact fun z => nomatch z)
      · exact z
    obtain ⟨_, _, n3, n4, n5⟩ := I.pin p (List.mem_append_right _ hp')
    obtain ⟨m1, m2⟩ := hip p hp'
    refine ⟨W.pv p m1, ?_, n3, n4, n5⟩
    unfold tellW
    rw [if_neg (Nat.not_lt.mpr m2), if_pos (List.mem_map.mpr ⟨_, m1, rfl⟩)]
/-- WHAT A WAKE LEFT -/
theorem step_of (g : GX X G) (I : Inv (reX X (trS X s0) (tellW X G pv s0.heap)) ip σ H1 s1) (hs : Same (tellW X G pv s0.heap) H1) (k0 : HOk X.prog X.w G s0.heap) :
    StepQ X.prog X.w X.outer G pv s0 s1 := by
  have ok := I.ok
  have frl : ∀ b ∈ frs X.outer, b < X.env.locals := fun b hb => Nat.lt_of_lt_of_le (frs_lt ok.funs b hb) ok.above
  have old : ∀ b o, s0.heap.get? b = some o → b < X.env.locals → (trS X s0).heap.get? b = some o := fun b o e q => (trH_get q).trans e
  have nex : ∀ b, b ∉ (reX X (trS X s0) (tellW X G pv s0.heap)).ex := fun b hb => absurd (show b ∈ X.ex from hb) (by rw [g.ex]; exact fun z => nomatch z)
  have young : ∀ b o, s0.heap.get? b = some o → ¬ b < X.env.locals → (∀ p ∈ pv, p.1 ≠ b) → s1.heap.get? b = some o := fun b o e q n => by
    have t : tellW X G pv s0.heap b = some (.ext fun h' => h'.get? b = some o) := by
      unfold tellW
      rw [if_neg q, if_neg (fun z => by obtain ⟨p, h1, h2⟩ := List.mem_map.mp z; exact n p h1 h2), e]
      rfl
    exact (I.hok b _ (hs _ _ t)).1
  refine ⟨I.os, I.bare, fun b o e nf n gn => ?_, fun b o e hf => ?_, fun b o e n => ?_, fun b o e => ?_⟩
  · by_cases q : b < X.env.locals
    · exact I.base.keep b o (old b o e q) ((tell_lt q).trans gn) nf (nex b)
    · exact young b o e q n
  · have q := frl b hf
    exact I.base.slot b o (old b o e q) ((tell_lt q).trans (g.gf b hf)) hf (nex b)
  · by_cases q : b < X.env.locals
    · exact I.base.there b o (old b o e q) (nex b)
    · exact ⟨o, young b o e q n⟩
  · have q := g.gl b (some_ne_none e)
    exact ObjOk.sub (k0 b o e) (I.hok b o (hs _ _ ((tell_lt q).trans e))) (g.nt b o e)
end
end Lw
/-! for x in it: if t: yield e -/
namespace Lw
open PySem PySem.Spec PyProof.Rows L2 GenW
theorem wk_func {prog : Program} {w : World} {A : Around} {Z : PySem.End → Shared → Prop} {body : List Stmt} {env : PySem.Env} {fs : List Frame} {s : Shared}
    (h : ∀ (K : Flow → Sem PySem.Fin) (J : Value → Sem PySem.Fin), K .next = leafOf (.ok (.ret .none)) → Wk (model prog w) A Z (.func body env) ((execs body env).wrap K J id id) fs s) : Wk (model prog w) A Z (.func body env) ((model prog w).den (.func body env)) fs s := by
  show Wk _ A Z _ (.point [] fun _ => ((execs body env).onRaise (leaving env)) >>= _) fs s
  refine wk_wrapN (m := point) (K := fun _ => ((execs body env).onRaise (leaving env)) >>= _) (J := .raise) (gd := id) (lv := fun _ => []) (wpAny_point ?_)
  rw [Sem.onRaise_eq_wrap, Sem.bind_eq_wrap', Sem.wrap_wrap]
  exact h _ _ rfl
theorem wk_if {M : Model} {A : Around} {Z : PySem.End → Shared → Prop} {c : Code} {fs : List Frame} {s : Shared} {env : PySem.Env} {K : Flow → Sem PySem.Fin} {J : Value → Sem PySem.Fin} {gd : Bool → Bool} {lv : List Value → List Value} {test : Expr} {body orelse : List Stmt} {pos : Pos}
    (h : wpAny M (A.over c fs) (isTrue test env (eval test env)) (fun b s' => Wk M A Z c ((execs (if b = true then body else orelse) env).wrap K J gd lv) fs s') (fun _ _ => False) s) : Wk M A Z c ((exec (.If test body orelse pos) env).wrap K J gd lv) fs s := by
  show Wk M A Z c ((standAt pos >>= fun _ => isTrue test env (eval test env) >>= fun b => if b = true then execs body env else execs orelse env).wrap K J gd lv) fs s
  refine wk_bindN (wpAny_standAt ?_)
  refine wk_bindN (wpAny_mono h (fun b s' q => ?_) fun _ _ z => z)
  cases b with
  | true => exact q
  | false => exact q
/-! ### bodies that hand out one item, at their end -/
structure QD where
  pass : L2.St → Hp → Prop
  out : V → L2.St → Hp → Prop
abbrev TQ := QD → L2.St → Hp → Prop
structure GB (X : Cx) (bd : List Stmt) (tb : TQ) : Prop where
  run : ∀ (A : Around) (c : Code) (fs : List Frame) (K : Flow → Sem PySem.Fin) (J : Value → Sem PySem.Fin) (gd : Bool → Bool) (lv : List Value → List Value) (Z : PySem.End → Shared → Prop) (pins : List (Addr × Obj)) (s : Shared) (σ : L2.St) (H : Hp) (D : QD),
    A.over c fs = X.A → splitAtGen fs = none → gd false = false → Inv X pins σ H s → tb D σ H →
    (∀ σ' H' s', Inv X pins σ' H' s' → D.pass σ' H' → Wk (model X.prog X.w) A Z c (K .next) fs s') →
    (∀ v x σ' H' s' k l p, Inv X pins σ' H' s' → RelV x v → D.out x σ' H' → (∀ (Z' : PySem.End → Shared → Prop) s2, Wk (model X.prog X.w) A Z' c (K .next) fs s2 → Wk (model X.prog X.w) A Z' c (k (.send .none)) fs s2) → Z (.susp v false l k c p fs) s') →
    Wk (model X.prog X.w) A Z c ((execs bd X.env).wrap K J gd lv) fs s
section
variable {X : Cx} {e test : Expr} {bd : List Stmt} {yp pos : Pos} {te : TE} {tc : TT} {tb : TQ}
def tYd (te : TE) : TQ := fun D σ H => te σ H fun x H1 => D.out x σ H1
theorem gb_yield (hx : X.xe = fun _ _ => False) (he : PE X e te) (hco : X.env.scope.isCoroutine = false := by rfl) (hi : interactive X.env = false := by rfl) : GB X [.Expr (.Yield (some e) yp) pos] (tYd te) := by
  refine ⟨fun A c fs K J gd lv Z pins s σ H D ho hs hg I h k1 k2 => ?_⟩
  refine wk_cons (wk_yieldS hs hg ?_ hco hi)
  rw [ho]
  have q := he.run pins s σ H _ I h
  rw [hx] at q
  exact wpAny_mono q (fun v s' ⟨x, H', I', r, z⟩ k l p kk => k2 v x σ H' s' k l p I' r z fun Z' s2 y => kk Z' s2 y) fun _ _ z => z
def tIfY (tc : TT) (tb : TQ) : TQ := fun D σ H => tc σ H fun b H1 => if b = true then tb D σ H1 else D.pass σ H1
theorem gb_if (hx : X.xe = fun _ _ => False) (ht : PT X test tc) (hb : GB X bd tb) : GB X [.If test bd [] pos] (tIfY tc tb) := by
  refine ⟨fun A c fs K J gd lv Z pins s σ H D ho hs hg I h k1 k2 => ?_⟩
  refine wk_cons (wk_if ?_)
  rw [ho]
  have q := ht.run pins s σ H _ I h
  rw [hx] at q
  refine wpAny_mono q (fun b s' ⟨H', I', z⟩ => ?_) fun _ _ z => z
  cases b with
  | true => exact hb.run A c fs _ J gd lv Z pins s' σ H' D ho hs hg I' z (fun σ' H' s' a b => k1 σ' H' s' a b) fun v x σ' H' s' k l p a b c d => k2 v x σ' H' s' k l p a b c d
  | false => exact k1 σ H' s' I' z
end
/-! ### the loop -/
section
variable {X : Cx} {G : Hp} {A : Around} {tg : Expr} {it : Addr} {bd : List Stmt} {fp : List Addr} {tn : Nat → Heap → Prop} {J : It} {gt : TG} {tb : TQ} {fs : List Frame} {q : Addr × Obj}
theorem slp_loop (g : GX X G) (hx : X.xe = fun _ _ => False) (hc : X.calm = true) (T : Turn X.prog X.w X.K tg J fp it tn) (hb : ∀ s H, GB (reX X s H) bd tb) (hg : ∀ s H, PG (reX X s H) tg gt)
    (hov : A.over (.forLoop tg (.ref it) bd [] X.env) fs = X.A) (hsp : splitAtGen fs = none) (hgd : fs.any Frame.guarded = false)
    (hend : ∀ (Z : PySem.End → Shared → Prop) s, Z (.ret (.ok (.ret .none))) s → Wk (model X.prog X.w) A Z (.block [] X.env) (.pure (.done .next)) fs s)
    (hfp : ∀ b ∈ fp, b ≠ X.env.locals ∧ b ∉ frs X.outer ∧ X.env.locals ≤ b) (hfq : ∀ b ∈ fp, q.1 ≠ b) (hql : X.env.locals ≤ q.1)
    (W : Nat → Nat → List V → L2.St → Hp → Hp → Prop)
    (hW : ∀ m n xs σ Hw H, W m n xs σ Hw H → (J.stop n H ∧ xs = [] ∧ Same Hw H) ∨ (J.go n H ∧ ∀ x H', J.yld n H x H' → gt x σ H' fun σ2 H2 => tb ⟨fun σ3 H3 => ∃ m', m' < m ∧ W m' (n + 1) xs σ3 Hw H3,
      fun v σ3 H3 => ∃ xs', xs = v :: xs' ∧ Same Hw H3 ∧ ∃ m', m' < m ∧ ∀ Hw', Same G Hw' → W m' (n + 1) xs' σ3 Hw' Hw'⟩ σ2 H2)) :
    ∀ (m n : Nat) (xs : List V) (σ : L2.St) (H : Hp) (pv : Pv) (s0 s : Shared), X.env.locals ∈ pv.map (·.1) → q.1 ∈ pv.map (·.1) → Inv (reX X (trS X s0) (tellW X G pv s0.heap)) [q] σ H s → tn n s.heap → (∀ b ∈ fp, H b = none) →
      HOk X.prog X.w G s0.heap → W m n xs σ (tellW X G pv s0.heap) H →
      Wk (model X.prog X.w) A (ZZ X.prog X.w A X.base X.outer G X.env.locals q xs pv s0) (.forLoop tg (.ref it) bd [] X.env) ((model X.prog X.w).den (.forLoop tg (.ref it) bd [] X.env)) fs s := by
  intro m
  induction m using Nat.strongRecOn with
  | ind m ih =>
    intro n xs σ H pv s0 s pvl pvq I st fr k0 w
    have fpk : ∀ {s0 : Shared} {pv : Pv} {H' : Hp} {s : Shared} {σ : L2.St}, Inv (reX X (trS X s0) (tellW X G pv s0.heap)) [q] σ H' s → (∀ b ∈ fp, H' b = none) → ∀ b ∈ fp, FpOk (reX X (trS X s0) (tellW X G pv s0.heap)) [q] H' b := fun {s0 pv H' s σ} I hn b hb => by
      obtain ⟨h1, h2, h3⟩ := hfp b hb
      refine ⟨hn b hb, h1, h2, .inr (Nat.le_trans I.ok.above h3), fun x c e => ?_, fun p hp => ?_⟩
      · exact absurd e (by rw [show (reX X (trS X s0) (tellW X G pv s0.heap)).env.cells.lookup x = none from g.nocell x]; exact fun z => nomatch z)
      · rcases List.mem_append.mp hp with z | z
        · exact absurd (show p ∈ X.pn from z) (by rw [g.pn]; exact fun z => nomatch z)
        · rw [List.mem_singleton.mp z]; exact hfq b hb
    refine wk_turn ?_
    rw [hov]
    rcases hW m n xs σ _ H w with ⟨stop, rfl, sm⟩ | ⟨go, step⟩
    · refine wpAny_mono (T.done (reX X (trS X s0) (tellW X G pv s0.heap)) rfl rfl rfl hc n [q] s σ H (fun _ _ => False) I (fpk I fr) st stop) (fun r s1 ⟨hr, I1⟩ => ?_) fun _ _ z => z
      subst hr
      exact hend _ s1 ⟨.inl rfl, step_of g I1 sm k0⟩
    · refine wpAny_mono (T.item (reX X (trS X s0) (tellW X G pv s0.heap)) rfl rfl rfl hc n [q] s σ H (fun _ _ => False) I (fpk I fr) st go) (fun r s4 ⟨u, hr, h4⟩ => ?_) fun _ _ z => z
      subst hr
      refine wpAny_mono h4 (fun _ s5 ⟨x, H5, I5, r5, y5, st5, fr5⟩ => ?_) fun _ _ z => z
      have I5' := I5.pinned (fpk I5 fr5) (T.obj _ _ st5)
      have qg := (hg (trS X s0) (tellW X G pv s0.heap)).run _ s5 σ H5 x u _ I5' r5 (step x H5 y5)
      rw [show (reX X (trS X s0) (tellW X G pv s0.heap)).xe = fun _ _ => False from hx] at qg
      refine wpAny_mono qg (fun _ s6 ⟨σ6, H6, I6, q6⟩ K Jx hK => ?_) fun _ _ z => z
      -- the iterator's objects stay as they are
      have kt : ∀ {h' : Heap}, (∀ p ∈ pinsAt fp s5.heap, h'.get? p.1 = some p.2) → tn (n + 1) h' := fun {h'} z => T.keep _ _ _ st5 fun b hb o e => z (b, o) (mem_pinsAt hb e)
      have pin : ∀ {Y : Cx} {σ' : L2.St} {H' : Hp} {s' : Shared}, Inv Y ([q] ++ pinsAt fp s5.heap) σ' H' s' → (∀ p ∈ pinsAt fp s5.heap, s'.heap.get? p.1 = some p.2) ∧ ∀ b ∈ fp, H' b = none := fun {Y σ' H' s'} I' =>
        ⟨fun p hp => (I'.pin p (List.mem_append_right _ (List.mem_append_right _ hp))).1, fun b hb => by
          obtain ⟨o, e, _⟩ := T.obj _ _ st5 b hb
          exact (I'.pin (b, o) (List.mem_append_right _ (List.mem_append_right _ (mem_pinsAt hb e)))).2.1⟩
      refine (hb (trS X s0) (tellW X G pv s0.heap)).run A _ fs K Jx id id _ _ s6 σ6 H6 _ hov hsp rfl I6 q6 (fun σ7 H7 s7 I7 w7 => ?_) fun v x7 σ7 H7 s7 k l p I7 r7 o7 back => ?_
      · obtain ⟨m', hm, w7⟩ := w7
        obtain ⟨p1, p2⟩ := pin I7
        rw [hK]
        exact wk_again rfl (ih m' hm (n + 1) xs σ7 H7 pv s0 s7 pvl pvq I7.unpinned (kt p1) p2 k0 w7)
      · obtain ⟨xs', rfl, sm, m', hm, w7⟩ := o7
        obtain ⟨p1, p2⟩ := pin I7
        obtain ⟨mL, ⟨ol, es, ep, eol, rL⟩, _⟩ := id I7.loc
        have eol : s7.heap.get? X.env.locals = some ol := eol
        have low : ∀ p ∈ [q] ++ pinsAt fp s5.heap, X.env.locals ≤ p.1 := fun p hp => by
          rcases List.mem_append.mp hp with z | z
          · rw [List.mem_singleton.mp z]; exact hql
          · exact (hfp _ (of_pinsAt z).1).2.2
        have hd : ∀ v, ol.data ≠ .cell v := fun v z => by rw [rL.1] at z; exact nomatch z
        refine ⟨v, l, k, _, p, fs, rfl, by simp [End.quiet, hgd], r7, step_of g I7 sm k0, (X.env.locals, ol) :: ([q] ++ pinsAt fp s5.heap), ⟨by simp, fun p hp => ?_, fun p hp => ?_, fun p hp => ?_, fun p hp => ?_⟩, ?_⟩
        · rcases List.mem_cons.mp hp with z | z
          · rw [z]; exact .inl pvl
          · rcases List.mem_append.mp z with z | z
            · rw [List.mem_singleton.mp z]; exact .inl pvq
            · obtain ⟨hb, _⟩ := of_pinsAt z
              have h7 := p2 _ hb
              by_cases y : p.1 ∈ pv.map (·.1)
              · exact .inl y
              · refine .inr ?_
                cases e : s0.heap.get? p.1 with
                | none => rfl
                | some o =>
                  have tl : tellW X G pv s0.heap p.1 = some (.ext fun h' => h'.get? p.1 = some o) := by
                    unfold tellW
                    rw [if_neg (Nat.not_lt.mpr (hfp _ hb).2.2), if_neg y, e]; rfl
                  have z2 := sm _ _ tl
                  rw [h7] at z2
                  exact nomatch z2
        · rcases List.mem_cons.mp hp with z | z
          · rw [z]; exact eol
          · exact (I7.pin p (List.mem_append_right _ z)).1
        · rcases List.mem_cons.mp hp with z | z
          · rw [z]; exact Nat.le_refl _
          · exact low p z
        · rcases List.mem_cons.mp hp with z | z
          · rw [z]; exact hd
          · exact (I7.pin p (List.mem_append_right _ z)).2.2.2.2
        · refine slp_iff.mpr fun s8 W8 => ?_
          show Wk (model X.prog X.w) A _ _ (k (.send .none)) fs s8
          refine back _ s8 ?_
          rw [hK]
          have I8 := wake_inv g I7 W8 ⟨ol, eol, List.mem_cons_self⟩ (fun p hp => ⟨List.mem_cons_of_mem _ hp, low p hp⟩) rfl
          obtain ⟨p3, p4⟩ := pin I8
          refine wk_again rfl (ih m' hm (n + 1) xs' σ7 _ ((X.env.locals, ol) :: ([q] ++ pinsAt fp s5.heap)) s8 s8 (by simp) (by simp) I8.unpinned (kt p3) p4 W8.hok (w7 _ fun b o e => ?_))
          · rw [tell_lt (g.gl b (some_ne_none e))]; exact e
end
end Lw
/-! The promise of a generator def whose body is one for loop. -/
namespace Lw
open PySem PySem.Spec PyProof.Rows L2 GenW
/-- the turns: m bounds them, n is the turn, xs is still to come -/
def Turns (G : Hp) (J : It) (gt : TG) (tb : TQ) (W : Nat → Nat → List V → L2.St → Hp → Hp → Prop) : Prop :=
  ∀ m n xs σ Hw H, W m n xs σ Hw H → (J.stop n H ∧ xs = [] ∧ Same Hw H) ∨ (J.go n H ∧ ∀ x H', J.yld n H x H' → gt x σ H' fun σ2 H2 => tb ⟨fun σ3 H3 => ∃ m', m' < m ∧ W m' (n + 1) xs σ3 Hw H3,
      fun v σ3 H3 => ∃ xs', xs = v :: xs' ∧ Same Hw H3 ∧ ∃ m', m' < m ∧ ∀ Hw', Same G Hw' → W m' (n + 1) xs' σ3 Hw' Hw'⟩ σ2 H2)
section
variable {X : Cx} {G : Hp} {A : Around} {tg iter : Expr} {bd : List Stmt} {pos : Pos} {wi : TI} {gt : TG} {tb : TQ}
theorem slp_start (g : GX X G) (hx : X.xe = fun _ _ => False) (hc : X.calm = true) (hA : A.deeper X.env = X.A) (hi : ∀ s H, PI (reX X s H) tg iter wi) (hb : ∀ s H, GB (reX X s H) bd tb) (hg : ∀ s H, PG (reX X s H) tg gt)
    (hs : ∀ x, foldedSetIterable iter X.env x = pure x) {σ : L2.St} {Hb H1 : Hp} {sb s1 : Shared} {ol : Obj} {xs : List V} {q0 : Addr × Obj} (I : Inv (reX X sb Hb) [q0] σ H1 s1) (eo : s1.heap.get? X.env.locals = some ol) (lq : X.env.locals < q0.1)
    (h : ∀ Hw, Same G Hw → wi σ Hw fun J H2 => ∃ W, Turns G J gt tb W ∧ ∃ m, W m 0 xs σ Hw H2) :
    Slp X.prog X.w A X.base X.outer G X.env.locals q0 xs [(X.env.locals, ol), q0] (.fresh (.func [.For tg iter bd [] pos] X.env)) := by
  refine slp_iff.mpr fun s0 W0 => ?_
  show Wk _ A _ _ _ [] s0
  refine wk_func fun K J hK => ?_
  refine wk_cons (wk_For ?_ hs)
  rw [over_func, hA]
  have I0 := wake_inv g I W0 ⟨ol, eo, List.mem_cons_self⟩ (fun p hp => by rw [List.mem_singleton.mp hp]; exact ⟨List.mem_cons_of_mem _ List.mem_cons_self, Nat.le_of_lt lq⟩) rfl
  have q := (hi (trS X s0) (tellW X G [(X.env.locals, ol), q0] s0.heap)).run [q0] s0 σ _ _ I0 (h _ fun b o e => by rw [tell_lt (g.gl b (some_ne_none e))]; exact e)
  rw [show (reX X (trS X s0) (tellW X G [(X.env.locals, ol), q0] s0.heap)).xe = fun _ _ => False from hx] at q
  refine wpAny_mono q (fun v s2 q2 => wpAny_mono q2 (fun itv s3 h3 k l p hk => ?_) fun _ _ z => z) fun _ _ z => z
  obtain ⟨it, fp, tn, Jt, H3, rfl, I3, T, st, ff, W, hW, m, w⟩ := h3
  refine slp_loop (fs := [.ret k none (id false) l (.func [.For tg iter bd [] pos] X.env) p []]) g hx hc T hb hg ?_ rfl rfl (fun Z s hz => hk Z _ s ?_) (fun b hb => ?_) (fun b hb => (ff b hb).2.2.2.2.2 q0 (List.mem_append_right _ List.mem_cons_self)) (Nat.le_of_lt lq) W hW m 0 xs σ H3 [(X.env.locals, ol), q0] s0 s3 (by simp) (by simp) I3 st (fun b hb => (ff b hb).1) W0.hok w
  · rw [over_loop rfl rfl, over_func, hA]
  · show Wk _ A Z _ (K .next) [] s
    rw [hK]
    exact wk_end _ hz
  · obtain ⟨f1, f2, f3, f4, _⟩ := ff b hb
    refine ⟨f2, f3, ?_⟩
    rcases f4 with z | z
    · exact absurd (show b ∈ X.ex from z) (by rw [g.ex]; exact fun z => nomatch z)
    · have n0 : X.env.locals ≤ s0.heap.objs.size := Nat.le_of_lt (Heap.lt_size (W0.pv _ List.mem_cons_self))
      exact Nat.le_trans (Nat.le_of_eq (trH_size n0).symm) z
end
/-- what a call of such a def gives: a generator that has not begun -/
def GMd (P : Program) (w : World) (k : Nat) (outer : List PySem.Env) (base : Heap) (G : Hp) (xs : List V) (s : Shared) (u : Value) (s' : Shared) : Prop :=
  ∃ (a lo : Addr) (n : Nat) (go ol : Obj) (c : Code), u = .ref a ∧ s.heap.objs.size ≤ lo ∧ lo < a ∧ s'.heap.get? a = some go ∧ (∀ h : Heap, h.get? a = some go → h.IsGen a n) ∧ (∀ v, go.data ≠ .cell v) ∧ s'.heap.get? lo = some ol ∧ (∀ v, ol.data ≠ .cell v) ∧
    s'.gens[n]? = some (.fresh c) ∧ s'.os = s.os ∧ AllBare s'.gens ∧ (∀ b o, s.heap.get? b = some o → s'.heap.get? b = some o) ∧ ∀ A, Room k A → A.frames = some outer → Slp P w A base outer G lo (a, go) xs [(lo, ol), (a, go)] (.fresh c)
/-- the told things that a generator may lean on -/
structure GOk (P : Program) (w : World) (G H : Hp) (h : Heap) : Prop where
  sub : Same G H
  hok : HOk P w G h
  nt : ∀ b o, G b = some o → NoT o
structure GFq (P : Program) (w : World) (K : PySem.W.Frag) (mg : Str → Option Value) (base : Heap) (k : Nat) (f : Addr) (fd : FuncData) (ps : List Str) (sp : List V → Hp → List V → Prop) : Prop where
  len : ∀ vs G xs, sp vs G xs → vs.length = ps.length
  run : ∀ (A : Around) (outer : List PySem.Env) (s : Shared) (H : Hp) (args : PySem.Args) (us : List Value) (vs : List V) (G : Hp) (xs : List V), Room k A → Env0 P w K mg base A outer s H → BindsTo s fd args (ps.zip us) → Vals vs us → sp vs G xs → GOk P w G H s.heap →
    codeAny (model P w) A (.call (.ref f) args) (fun r s' => match r with | .ok (.ret u) => GMd P w k outer base G xs s u s' | _ => False) s
abbrev cxQ (P : Program) (w : World) (K : PySem.W.Frag) (mg : Str → Option Value) (base : Heap) (N : List Str) (qual : Str) (scope : Scope) (f : Addr) (cd : Value) (A : Around) (outer : List PySem.Env) (s : Shared) (H : Hp) : Cx :=
  { cxOf CX0 P w K mg base N qual scope f cd A outer s H (fun _ _ _ => False) with xe := fun _ _ => False }
theorem inv_gc {P : Program} {w : World} {K : PySem.W.Frag} {mg : Str → Option Value} {base : Heap} {N : List Str} {qual : Str} {scope : Scope} {f : Addr} {cd : Value} {A : Around} {outer : List PySem.Env} {s s1 : Shared} {H H' : Hp} {E : XK} {pins : List (Addr × Obj)} {σ : L2.St}
    (I : Inv (gcxOf P w K mg base N qual scope f cd A outer s H E []) pins σ H' s1) : Inv (cxQ P w K mg base N qual scope f cd A outer s H) pins σ H' s1 :=
  ⟨⟨I.ok.mod, I.ok.kind, I.ok.glob, I.ok.blt, I.ok.above, I.ok.inj, I.ok.has, I.ok.cab, I.ok.hd, I.ok.frames, I.ok.stk, I.ok.exf, I.ok.bs, I.ok.bsz, I.ok.noex, I.ok.exfs, I.ok.funs, I.ok.frf⟩, I.os, I.bare, I.base, I.loc, I.cell, I.free, I.freeC, I.pin, I.hok, I.len⟩
theorem gfq_of {P : Program} {w : World} {K : PySem.W.Frag} {mg : Str → Option Value} {base : Heap} {k : Nat} {f : Addr} {name qual : Str} {params : Arguments} {tg iter : Expr} {bd : List Stmt} {pos : Pos} {scope : Scope} {dV kV doc pm cdv ct oc : Value} {an od : Option Addr}
    {osl : Array (Option Value)} {N ps : List Str} {sp : List V → Hp → List V → Prop} (lk : K.lookup f = some ⟨oc, od, .func (PySem.W.fnOf name qual params [.For tg iter bd [] pos] scope dV kV doc pm an cdv ct), osl⟩) (hcd : PySem.W.codeIn K cdv qual = true) (S : GScope N ps scope)
    (hcl : ∀ n, cellsFrom n scope.names [] = []) (len : ∀ vs G xs, sp vs G xs → vs.length = ps.length)
    (hbody : ∀ (A : Around) (outer : List PySem.Env) (s : Shared) (H : Hp) (vs : List V) (G : Hp) (xs : List V), Room k (A.deeper (envOfC qual scope s.heap.objs.size f cdv)) → sp vs G xs → ∃ wi gt tb,
      (∀ s1 H1, PI (reX (cxQ P w K mg base N qual scope f cdv A outer s H) s1 H1) tg iter wi) ∧ (∀ s1 H1, GB (reX (cxQ P w K mg base N qual scope f cdv A outer s H) s1 H1) bd tb) ∧ (∀ s1 H1, PG (reX (cxQ P w K mg base N qual scope f cdv A outer s H) s1 H1) tg gt) ∧
      (∀ x, foldedSetIterable iter (envOfC qual scope s.heap.objs.size f cdv) x = pure x) ∧ ∀ Hw, Same G Hw → wi (start N vs) Hw fun J H2 => ∃ W, Turns G J gt tb W ∧ ∃ m, W m 0 xs (start N vs) Hw H2) :
    GFq P w K mg base (k + 1) f (PySem.W.fnOf name qual params [.For tg iter bd [] pos] scope dV kV doc pm an cdv ct) ps sp := by
  refine ⟨len, fun A outer s H args us vs G xs hr e0 hb r hsp gk => ?_⟩
  have hl := len _ _ _ hsp
  have KX : K.In s.heap := e0.mod.kin.keeps fun b o e => (e0.bs b o e).1
  have lim : s.heap.NoLimit := e0.mod.nolimit.keeps fun b o e => (e0.bs b o e).1
  refine codeAny_call_generator hr.depth (KX _ _ lk) rfl S.co S.gen rfl (PySem.W.codeRec_of KX hcd) (hb _ _ _ _ ?_)
  refine wpAny_newFunctionEnv_cells S.kind (fun ⟨n, v⟩ hy => ?_) fun env he s1 x => ?_
  · rcases S.par n (List.of_mem_zip hy).1 with q | q
    · exact .inl q
    · exact .inr ⟨q, PySem.W.cellsFrom_some _ _ _ (.inl q)⟩
  subst he
  have kp : ∀ b o, s.heap.get? b = some o → s1.heap.get? b = some o := x.toInCall.keep
  have l1 : s1.heap.NoLimit := lim.keeps kp
  refine ⟨l1, ?_⟩
  obtain ⟨h1, tk, es, hk1⟩ := x.done
  have e_os : s1.os = s.os := by rw [es]
  have e_g : s1.gens = s.gens := by rw [es]
  have lt : s.heap.objs.size < s1.heap.objs.size := x.toInCall.ns.lt
  obtain ⟨mL, ⟨ol, en, ep, eol, rL⟩, _⟩ := (inv_startG (E := fun _ _ _ => False) S hr.hd e0 hl r x).loc
  have main : ∀ (go : Obj) (nm qn : Value) (tk2 : Nat), go.cls = .type "generator" → go.data = .fields #[.int s1.gens.size 0, nm, qn] → go.slots = #[] → (s1.heap.push go).get? s1.heap.objs.size = some go →
      GMd P w (k + 1) outer base G xs s (.ref s1.heap.objs.size) { s1 with gens := s1.gens.push (.fresh (.func [.For tg iter bd [] pos] (envOfC qual scope s.heap.objs.size f cdv))), toks := tk2, heap := s1.heap.push go } := by
    intro go nm qn tk2 g1 g2 g3 g4
    refine ⟨s1.heap.objs.size, s.heap.objs.size, s1.gens.size, go, ol, _, rfl, Nat.le_refl _, lt, g4, fun h e => ⟨go, nm, qn, e, g1, g2, g3⟩, (fun v z => by rw [g2] at z; exact (nomatch z)), Heap.get?_push_of_some _ eol, (fun v z => by rw [rL.1] at z; exact (nomatch z)),
      Array.getElem?_push_size .., e_os, AllBare.push (by rw [e_g]; exact e0.bare) rfl, fun b o e => Heap.get?_push_of_some _ (kp b o e), fun Aw hrw hfr => ?_⟩
    have e0w : Env0 P w K mg base Aw outer s H := ⟨hfr, e0.mod, e0.bs, e0.bsz, e0.funs, e0.frf, e0.hok, e0.bare⟩
    obtain ⟨wi, gt, tb, hi, hb, hg, hs, hq⟩ := hbody Aw outer s H vs G xs (hrw.deeper _) hsp
    have I1 : Inv (cxQ P w K mg base N qual scope f cdv Aw outer s H) [] (start N vs) H s1 := inv_gc (inv_startG (E := fun _ _ _ => False) S hrw.hd e0w hl r x)
    have gx : GX (cxQ P w K mg base N qual scope f cdv Aw outer s H) G := by
      refine ⟨rfl, rfl, ⟨rfl, rfl⟩, fun y => ?_, fun b hn => ?_, fun b hb => ?_, fun b o e => ?_, gk.nt⟩
      · show (cellsFrom (s.heap.objs.size + 1) scope.names []).lookup y = none
        rw [hcl]; rfl
      · cases q : G b with
        | none => exact absurd q hn
        | some o => exact gk.hok.lt q
      · cases q : G b with
        | none => rfl
        | some o => exact absurd (gk.sub _ _ q) (by rw [e0.frf b hb]; exact fun z => nomatch z)
      · cases q : G b with
        | none => rfl
        | some o => exact absurd (gk.sub _ _ q) (by rw [(e0.bs b _ e).2]; exact fun z => nomatch z)
    have I2 : Inv (cxQ P w K mg base N qual scope f cdv Aw outer s H) [] (start N vs) H { s1 with gens := s1.gens.push (.fresh (.func [.For tg iter bd [] pos] (envOfC qual scope s.heap.objs.size f cdv))), toks := tk2, heap := s1.heap.push go } :=
      I1.call' (ch := []) rfl (Un.kept fun b o e => Heap.get?_push_of_some _ e) (I1.hok.kept fun b o e => Heap.get?_push_of_some _ e) (AllBare.push (by rw [e_g]; exact e0.bare) rfl) fun b z => nomatch z
    have I3 : Inv (cxQ P w K mg base N qual scope f cdv Aw outer s H) [(s1.heap.objs.size, go)] (start N vs) H _ := I2.pins_of fun p hp => by
      rw [List.mem_singleton.mp hp]
      exact ⟨g4, I1.hok.fresh (Nat.le_refl _), Nat.ne_of_gt lt, I1.nofs (Nat.le_refl _), fun v z => by rw [g2] at z; exact (nomatch z)⟩
    exact slp_start (X := cxQ P w K mg base N qual scope f cdv Aw outer s H) gx rfl rfl rfl hi hb hg hs (σ := start N vs) (Hb := H) (sb := s) (s1 := { s1 with gens := s1.gens.push (.fresh (.func [.For tg iter bd [] pos] (envOfC qual scope s.heap.objs.size f cdv))), toks := tk2, heap := s1.heap.push go }) (H1 := H) (q0 := (s1.heap.objs.size, go)) I3 (Heap.get?_push_of_some _ eol) lt hq
  exact main _ _ _ _ rfl rfl rfl (Heap.get?_push_size _ rfl)
end Lw
/-! The next item of a sleeping generator. -/
namespace Lw
open PySem PySem.Spec PyProof.Rows L2 GenW
theorem wk_resume {M : Model} {A : Around} {Z : PySem.End → Shared → Prop} {E : Value → Shared → Prop} {s : Shared} {g : Nat} {gs : GenState} {l : List Value} {α : Type} {k : GenResult → Sem α} {Q : α → Shared → Prop} (hg : s.gens[g]? = some gs)
    (go : Goes1 M A Z gs (s.setGen g .running)) (hq : ∀ e s1, Z e s1 → e.quiet = true) (hk : ∀ e s1, Z e s1 → wpAny M A (k e.result) Q E (s1.setGen g e.genState)) : wpAny M A (.resume g (.send .none) l k) Q E s := by
  intro C p hC
  rw [Sem.wp_resume]
  cases gs with
  | fresh c =>
    obtain ⟨e, s1, hr, hz⟩ := go (C.wake c p) p rfl (hC.wake c p)
    exact ⟨_, _, by unfold Wakes; rw [hg]; exact ⟨e, s1, hr, hq e s1 hz, rfl, rfl⟩, hk e s1 hz C p hC⟩
  | suspended k0 l0 c0 p0 fs0 cl =>
    obtain ⟨e, s1, hr, hz⟩ := go (C.wake c0 p) p0 rfl (hC.wake c0 p)
    exact ⟨_, _, by unfold Wakes; rw [hg]; exact ⟨e, s1, hr, hq e s1 hz, rfl, rfl⟩, hk e s1 hz C p hC⟩
  | running => exact go.elim
  | finished => exact go.elim
section
variable {P : Program} {w : World} {A : Around} {E : Value → Shared → Prop} {s : Shared} {Z : PySem.End → Shared → Prop}
/-- what __next__ makes of a wake's end -/
theorem next_wake {a : Addr} {g : Nat} {gs : GenState} {Q : Option Value → Shared → Prop} (hh : A.handled = none) (hl : s.heap.NoLimit) (hr : A.depth < recursionLimit) (hg : s.heap.IsGen a g) (hs : s.gens[g]? = some gs)
    (go : Goes1 (model P w) A.in1 Z gs (s.setGen g .running)) (hq : ∀ e s1, Z e s1 → e.quiet = true)
    (hZ : ∀ e s1, Z e s1 → ((e = .ret (.ok (.ret .none)) ∨ e = .ret (.ok .next)) ∧ ∀ h', (∀ b o, s1.heap.get? b = some o → h'.get? b = some o) → Q none { s1.setGen g .finished with heap := h' }) ∨
      ∃ v l k c p fs, e = .susp v false l k c p fs ∧ Q (some v) (s1.setGen g e.genState)) : wpAny (model P w) A (pyNext (.ref a)) Q E s := by
  unfold pyNext
  refine wpAny_bind (wpAny_attempt (wpAny_callSpecial?_slot (name := Str.ofString "__next__") hg.typeIs slot_gen_next (wpAny_call_entry slot_gen_next hg.typeIs entry_gen_next ?_ (args_gen_next _))))
  show wpAny (model P w) A.in1 (Builtin.Generator.genWake (.ref a) (.send .none)) _ _ s
  unfold Builtin.Generator.genWake
  refine wpAny_bind (wpAny_holding (wpAny_genNumber hg (wpAny_bind (wpAny_genState hs ?_))))
  have live : (∃ c, gs = .fresh c) ∨ ∃ k l c p fs cl, gs = .suspended k l c p fs cl := by
    cases gs with
    | fresh c => exact .inl ⟨c, rfl⟩
    | suspended k l c p fs cl => exact .inr ⟨k, l, c, p, fs, cl, rfl⟩
    | running => exact go.elim
    | finished => exact go.elim
  rcases live with ⟨c, rfl⟩ | ⟨k, l, c, p, fs, cl, rfl⟩
  all_goals
    refine wpAny_bind (wpAny_roomToWake hl hr ?_)
    show wpAny (model P w) A.in1 (.resume g (.send .none) [] _) _ _ s
    refine wk_resume hs go hq fun e s1 z => ?_
    rcases hZ e s1 z with ⟨he, hp⟩ | ⟨v, l, k, c, p, fs, rfl, hv⟩
    · have res : e.result = .returned .none := by rcases he with rfl | rfl <;> rfl
      have fin : e.genState = .finished := by rcases he with rfl | rfl <;> rfl
      rw [fin]
      simp only [res]
      show wpAny (model P w) A.in1 (newExc (.type "StopIteration") [] >>= _) _ _ _
      refine wpAny_bind ?_; simp only [newExc, newTuple]
      refine wpAny_bind (wpAny_newObj_type (wpAny_bind (m := firstArgMember _ _) (wpAny_of_eq (a := Value.none) (by first | rfl | (simp only [firstArgMember]; rfl)) ?_)) (by size_fits)); refine wpAny_newObj_type ?_ (by size_fits)
      simp only [raiseNew]; refine wpAny_bind (wpAny_bind (wpAny_handled ?_))
      first | rw [show A.in1.handled = none from hh] | rw [hh]
      refine wpAny_throw (wpAny_bind (wpAny_isInstance (T := "StopIteration") (b := true) ⟨_, Heap.get?_push_size _ rfl, rfl⟩ isSubtype_stop ?_))
      exact wpAny_pure (hp _ fun b o hb => Heap.get?_push_of_some _ (Heap.get?_push_of_some _ hb))
    · exact wpAny_pure ⟨v, rfl, wpAny_pure hv⟩
end
end Lw
/-! Expressions and statements that leave the table of generators as it is. -/
namespace Lw
open PySem PySem.Spec PyProof.Rows L2 GenW
/-- .. and the table is still T -/
def Gk {α : Type} (T : Array GenState) (Q : α → Shared → Prop) (a : α) (s : Shared) : Prop := s.gens = T ∧ Q a s
structure PEg (X : Cx) (e : Expr) (t : TE) : Prop where
  run : ∀ (T : Array GenState) (pins : List (Addr × Obj)) (s : Shared) (σ : L2.St) (H : Hp) (Q : VK), s.gens = T → Inv X pins σ H s → t σ H Q → wpAny (model X.prog X.w) X.A (eval e X.env) (Gk T (EP X pins σ Q)) X.xe s
structure PTg (X : Cx) (e : Expr) (t : TT) : Prop where
  run : ∀ (T : Array GenState) (pins : List (Addr × Obj)) (s : Shared) (σ : L2.St) (H : Hp) (Q : Bool → Hp → Prop), s.gens = T → Inv X pins σ H s → t σ H Q → wpAny (model X.prog X.w) X.A (isTrue e X.env (eval e X.env)) (Gk T (TP X pins σ Q)) X.xe s
structure PWg (X : Cx) (e : Expr) (t : TT) : Prop where
  run : ∀ (T : Array GenState) (wh : Sem Value) (pins : List (Addr × Obj)) (s : Shared) (σ : L2.St) (H : Hp) (Q : Bool → Hp → Prop), s.gens = T → Inv X pins σ H s → t σ H Q → wpAny (model X.prog X.w) X.A (isTrue e X.env wh) (Gk T (TP X pins σ Q)) X.xe s
structure PAg (X : Cx) (es : List Expr) (t : TA) : Prop where
  run : ∀ (T : Array GenState) (pos : Pos) (pins : List (Addr × Obj)) (s : Shared) (σ : L2.St) (H : Hp) (Q : List V → Hp → Prop), s.gens = T → Inv X pins σ H s → t σ H Q → wpAny (model X.prog X.w) X.A (spliced (backTo pos (starEach es X.env))) (Gk T (AP X pins σ Q)) X.xe s
structure PSg (X : Cx) (st : Stmt) (t : TS) : Prop where
  run : ∀ (T : Array GenState) (pins : List (Addr × Obj)) (s : Shared) (σ : L2.St) (H : Hp) (D : Ends), s.gens = T → Inv X pins σ H s → t D σ H → wpAny (model X.prog X.w) X.A (exec st X.env) (Gk T (SP X pins D)) X.xe s
structure PSsg (X : Cx) (st : List Stmt) (t : TS) : Prop where
  run : ∀ (T : Array GenState) (pins : List (Addr × Obj)) (s : Shared) (σ : L2.St) (H : Hp) (D : Ends), s.gens = T → Inv X pins σ H s → t D σ H → wpAny (model X.prog X.w) X.A (execs st X.env) (Gk T (SP X pins D)) X.xe s
def OpG (X : Cx) (f : Value → Value → Sem Value) (r : R2) : Prop :=
  ∀ (T : Array GenState) (pins : List (Addr × Obj)) (s : Shared) (σ : L2.St) (H : Hp) (x y : V) (v u : Value) (Q : VK), s.gens = T → Inv X pins σ H s → RelV x v → RelV y u → r x y H Q → wpAny (model X.prog X.w) X.A (f v u) (Gk T (EP X pins σ Q)) X.xe s
def CallG (X : Cx) (f : Value) (r : List V → Hp → VK → Prop) : Prop :=
  ∀ (T : Array GenState) (pins : List (Addr × Obj)) (s : Shared) (σ : L2.St) (H : Hp) (xs : List V) (us : List Value) (Q : VK), s.gens = T → Inv X pins σ H s → Vals xs us → r xs H Q → wpAny (model X.prog X.w) X.A (call f us) (Gk T (EP X pins σ Q)) X.xe s
section
variable {X : Cx} {a b e : Expr} {es rest : List Expr} {ta tb te : TE} {tA tB' : TT} {t : TA} {pos p : Pos}
theorem peg_var {i : Nat} {x : Str} (hN : X.N[i]? = some x) (hv : Vis X.env.scope x) (hd : (x == ("__debug__" : Str)) = false := by decide) (hcd : (x == ("__classdict__" : Str)) = false := by decide) : PEg X (.Name x pos) (tVar i) := by
  refine ⟨fun T pins s σ H Q hT I ⟨v, e, h⟩ => ?_⟩
  obtain ⟨m, hn, hl⟩ := I.loc
  obtain ⟨u, r, l⟩ := hl i x v hN e hv
  have fin : Gk T (EP X pins σ Q) u s := ⟨hT, v, H, I, r, h⟩
  rcases l with ⟨hk, hm⟩ | ⟨hk | hk, c, hc, hcell⟩
  · exact wpAny_Name (wpAny_loadName_local I.ok.kind hk hn hm fin) hd
  · exact wpAny_Name (wpAny_loadName_cell I.ok.kind hk hc hcell fin) hd
  · exact wpAny_Name (wpAny_loadName_free I.ok.kind hk hc hcell fin hcd) hd
theorem peg_int {i j} : PEg X (.Constant (.int i) j pos) (tC (.int i)) := ⟨fun T pins s σ H Q hT I h => wpAny_Constant_int ⟨hT, .int i, H, I.tok _, ⟨_, rfl⟩, h⟩⟩
theorem peg_bltn {x : Str} {v : V} {u : Value} (hg : Gl X x) (hm : X.mg x = none) (hv : bootBuiltins x = some u) (r : RelV v u) (hn : x ≠ "__name__" := by decide) (hd : (x == ("__debug__" : Str)) = false := by decide) : PEg X (.Name x pos) (tC v) :=
  ⟨fun T pins s σ H Q hT I h => ld_blt I hg hm hv ⟨hT, v, H, I, r, h⟩ hn hd⟩
theorem peg_op {op : Operator} {r : R2} (ho : OpG X (binaryOp op) r) (ha : PEg X a ta) (hb : PEg X b tb) : PEg X (.BinOp a op b pos) (tOp r ta tb) :=
  ⟨fun T pins s σ H Q hT I h => wpAny_BinOp (thn (ha.run T pins s σ H _ hT I h) fun v s1 ⟨g1, x, H1, I1, r1, q1⟩ => thn (hb.run T pins s1 σ H1 _ g1 I1 q1) fun u s2 ⟨g2, y, H2, I2, r2, q2⟩ => ho T pins s2 σ H2 x y v u Q g2 I2 r1 r2 q2)⟩
theorem opgI {f : Value → Value → Sem Value} {g : Int → Int → Int}
    (rule : ∀ (i j : Int) (t u : Tok) (s : Shared) (Q : Value → Shared → Prop) (E : Value → Shared → Prop), Q (.int (g i j) s.toks) { s with toks := s.toks + 1 } → wpAny (model X.prog X.w) X.A (f (.int i t) (.int j u)) Q E s) : OpG X f (rI0 fun i j => .int (g i j)) := by
  intro T pins s σ H x y v u Q hT I rx ry ⟨i, j, e1, e2, q⟩
  subst e1 e2
  obtain ⟨t1, rfl⟩ := rx
  obtain ⟨t2, rfl⟩ := ry
  exact rule i j t1 t2 s _ _ ⟨hT, .int (g i j), H, I.tok _, ⟨_, rfl⟩, q⟩
theorem opg_add : OpG X (binaryOp .Add) (rI0 fun i j => .int (i + j)) := opgI fun _ _ _ _ _ _ _ q => add_int q
theorem opg_sub : OpG X (binaryOp .Sub) (rI0 fun i j => .int (i - j)) := opgI fun _ _ _ _ _ _ _ q => sub_int q
theorem opgB {f : Value → Value → Sem Value} {g : Int → Int → Bool}
    (rule : ∀ (i j : Int) (t u : Tok) (s : Shared) (Q : Value → Shared → Prop) (E : Value → Shared → Prop), Q (.bool (g i j)) s → wpAny (model X.prog X.w) X.A (f (.int i t) (.int j u)) Q E s) : OpG X f (rI0 fun i j => .bl (g i j)) := by
  intro T pins s σ H x y v u Q hT I rx ry ⟨i, j, e1, e2, q⟩
  subst e1 e2
  obtain ⟨t1, rfl⟩ := rx
  obtain ⟨t2, rfl⟩ := ry
  exact rule i j t1 t2 s _ _ ⟨hT, .bl (g i j), H, I, rfl, q⟩
theorem opg_gt : OpG X (compareOp .Gt) (rI0 fun i j => .bl (decide (j < i))) := opgB fun _ _ _ _ _ _ _ q => gt_int q
theorem ptg_cmpR {op : CmpOp} {r : R2} (ho : OpG X (compareOp op) r) (ha : PEg X a ta) (hb : PEg X b tb) (hm : behindInMarks op b = false) : PTg X (.Compare a [op] [b] pos) (tTest (tOp r ta tb)) := by
  refine ⟨fun T pins s σ H Q hT I h => wpAny_isTrue_Compare1 (thn (ha.run T pins s σ H _ hT I h) fun v s1 ⟨g1, x, H1, I1, r1, q1⟩ => thn (hb.run T pins s1 σ H1 _ g1 I1 q1) fun u s2 ⟨g2, y, H2, I2, r2, q2⟩ =>
    thn (ho T pins s2 σ H2 x y v u _ g2 I2 r1 r2 q2) fun c s3 ⟨g3, z, H3, I3, r3, k, e, q3⟩ => ?_) hm⟩
  subst e
  cases r3
  exact wpAny_truthy_bool ⟨g3, H3, I3, q3⟩
theorem pag_nil : PAg X [] tNil := ⟨fun T _ _ _ _ H Q hT I h => Calls.spliced_nil ⟨hT, [], H, I, .nil, h⟩⟩
theorem pag_cons (ha : PEg X e te) (hr : PAg X es t) (hs : starEach (e :: es) X.env = (false, eval e X.env) :: starEach es X.env := by rfl) : PAg X (e :: es) (tCons te t) := by
  refine ⟨fun T pos pins s σ H Q hT I h => ?_⟩
  rw [hs]
  show wpAny (model X.prog X.w) _ (spliced ((false, eval e X.env) :: backTo pos (starEach es X.env))) _ _ s
  exact Calls.spliced_cons (thn (ha.run T pins s σ H _ hT I h) fun u s1 ⟨g1, x, H1, I1, r1, q1⟩ => thn (hr.run T pos pins s1 σ H1 _ g1 I1 q1) fun us s2 ⟨g2, xs, H2, I2, r2, q2⟩ => ⟨g2, x :: xs, H2, I2, .cons r1 r2, q2⟩)
theorem peg_callB {id : String} {x : Str} {r : List V → Hp → VK → Prop} (hc : CallG X (.builtin id) r) (hg : Gl X x) (hm : X.mg x = none) (hv : bootBuiltins x = some (.builtin id)) (ha : PAg X (e :: es) t) (hn : x ≠ "__name__" := by decide) (hdb : (x == ("__debug__" : Str)) = false := by decide)
    (he : starEach (e :: es) X.env = (false, eval e X.env) :: starEach es X.env := by rfl) (hpl : (backTo pos (starEach es X.env)).any (·.1) = false := by rfl) : PEg X (.Call (.Name x p) (e :: es) [] pos) (tCB r t) :=
  ⟨fun T pins s σ H Q hT I h => wpAny_Call_Name_kw (ld_blt I hg hm hv (PyProof.Rows.callWith_builtin1 (thn (ha.run T pos pins s σ H _ hT I h) fun us s1 ⟨g1, vs, H1, I1, r1, q1⟩ => hc T pins s1 σ H1 vs us Q g1 I1 r1 q1) he hpl) hn hdb)⟩
theorem callg_len {K : PySem.W.Frag} (hK : X.K = K := by rfl) : CallG X (.builtin "len") (fun xs H Q => ∃ p ys, xs = [.ref p] ∧ (SqL K H p ys ∨ SqT K H p ys) ∧ Q (.int ys.length) H) := by
  subst hK
  intro T pins s σ H xs us Q hT I r ⟨p, ys, e, hq, q⟩
  subst e
  obtain ⟨u, rfl, rx⟩ := vals1 r
  cases rx
  have n63 := line63
  rcases hq with hq | hq
  · obtain ⟨its, r', pl, hz⟩ := I.list hq
    have hl := r'.length
    exact Calls.call_len_list pl.isList (by simp only [List.size_toArray] <;> omega) ⟨hT, .int ys.length, H, I.tok _, ⟨s.toks + 1, by rw [List.size_toArray, hl]⟩, q⟩
  · obtain ⟨its, r', pl, hz⟩ := I.tuple hq
    have hl := r'.length
    exact len_tuple pl (by simp only [List.size_toArray] <;> omega) ⟨hT, .int ys.length, H, I.tok _, ⟨s.toks + 1, by rw [List.size_toArray, hl]⟩, q⟩
theorem callg_isi {K : PySem.W.Frag} (hK : X.K = K := by rfl) : CallG X (.builtin "isinstance") (rIsi K) := by
  subst hK
  intro T pins s σ H xs us Q hT I r ⟨x, c, t, u, b, e0, k, ty, e, q⟩
  subst e0
  obtain ⟨u1, u2, rfl, r1, r2⟩ := vals2 r
  have z2 := k.eq r2
  subst z2
  obtain ⟨P, Z, pz, hx⟩ := kit_of I r1 ty
  exact PySem.W.kia_one Z I.kIn pz e hx fun tk => ⟨hT, .bl b, H, I.tok tk, rfl, q⟩
theorem PWg.pt (h : PWg X e tA) : PTg X e tA := ⟨fun T => h.run T _⟩
theorem ptg_val (h : PEg X e te) (he : ∀ wh, isTrue e X.env wh = (do let v ← wh; standAt e.pos; holding [v] (truthy v)) := by intro _; rfl) : PTg X e (tB te) := by
  refine ⟨fun T pins s σ H Q hT I hw => isTrue_plain (thn (h.run T pins s σ H _ hT I hw) fun v s1 ⟨g1, x, H1, I1, r1, d, e1, q1⟩ => ?_) (he _)⟩
  subst e1
  cases r1
  exact wpAny_truthy_bool ⟨g1, H1, I1, q1⟩
theorem ptg_not (ha : PTg X a tA) : PTg X (.UnaryOp .Not a pos) (tNot tA) := ⟨fun T pins s σ H Q hT I h => isTrue_not (thn (ha.run T pins s σ H (fun c H1 => Q (!c) H1) hT I h) fun _ _ q => q)⟩
theorem pwg_or1 (ha : PTg X a tA) : PWg X (.BoolOp .Or [a] pos) tA := by
  refine ⟨fun T wh pins s σ H Q hT I h => isTrue_or (thn (ha.run T pins s σ H Q hT I h) fun c s1 q => ?_)⟩
  cases c with
  | true => exact q
  | false => exact isTrue_or_nil q
theorem pwg_or (ha : PTg X a tA) (hb : PWg X (.BoolOp .Or (b :: rest) pos) tB') : PWg X (.BoolOp .Or (a :: b :: rest) pos) (tOr tA tB') := by
  refine ⟨fun T wh pins s σ H Q hT I h => isTrue_or (thn (ha.run T pins s σ H _ hT I h) fun c s1 ⟨g1, H1, I1, q1⟩ => ?_)⟩
  cases c with
  | true => exact ⟨g1, H1, I1, q1⟩
  | false => exact hb.run T wh pins s1 σ H1 Q g1 I1 q1
variable {st : Stmt} {sts bd od : List Stmt} {u v : TS}
theorem pssg_nil : PSsg X [] tNext := ⟨fun T _ _ σ H _ hT I h => wpAny_execs_nil ⟨hT, σ, H, I, h⟩⟩
theorem pssg_one (h1 : PSg X st u) : PSsg X [st] u := by
  refine ⟨fun T pins s σ H D hT I h => wpAny_execs_cons (thn (h1.run T pins s σ H D hT I h) fun f s1 q => ?_)⟩
  cases f with
  | next => exact wpAny_execs_nil q
  | _ => exact q
theorem pssg_cons (h1 : PSg X st u) (h2 : PSsg X sts v) : PSsg X (st :: sts) (tSeq u v) := by
  refine ⟨fun T pins s σ H D hT I h => wpAny_execs_cons (thn (h1.run T pins s σ H { D with nx := v D } hT I h) fun f s1 q => ?_)⟩
  cases f with
  | next =>
    obtain ⟨g1, σ', H', I', q⟩ := q
    exact h2.run T pins s1 σ' H' D g1 I' q
  | _ => exact q
theorem psg_if (hc : PTg X e tA) (ha : PSsg X bd u) (hb : PSsg X od v) : PSg X (.If e bd od pos) (tIfS tA u v) := by
  refine ⟨fun T pins s σ H D hT I h => wpAny_If (thn (hc.run T pins s σ H _ hT I h) fun d s1 ⟨g1, H1, I1, q1⟩ => ?_)⟩
  cases d with
  | true => exact ha.run T pins s1 σ H1 D g1 I1 q1
  | false => exact hb.run T pins s1 σ H1 D g1 I1 q1
/-- a body that is not come to -/
theorem pssg_never : PSsg X sts tNever := ⟨fun _ _ _ _ _ _ _ _ h => h.elim⟩
theorem psg_expr (he : PEg X e te) (hs : swapsWith e none pos.line X.env = pure false := by rfl) : PSg X (.Expr e pos) (tDrop te) :=
  ⟨fun T pins s σ H D hT I h => wpAny_Expr_any (thn (he.run T pins s σ H _ hT I h) fun v s1 ⟨g1, x, H1, I1, r1, q1⟩ => ⟨g1, σ, H1, I1, q1⟩) I.quiet hs⟩
/-- x.append(e) -/
theorem peg_append {o : Expr} {apos cpos : Pos} {to : TE} {K : PySem.W.Frag} (ho : PEg X o to) (ha : PAg X (e :: es) t) (hK : X.K = K := by rfl) (hbase : attributeBase o "append" X.env (eval o X.env) = eval o X.env := by rfl)
    (hfew : ((backTo cpos (starEach (e :: es) X.env)).all (fun x => !x.1) && (backToKw cpos (keywordEach [] X.env)).all (fun x => x.1.isSome) && decide ((e :: es).length + ([] : List Keyword).length + (if ([] : List Keyword).isEmpty then 0 else 1) < 30)) = true := by rfl)
    (hline : (apos.endLine == cpos.line) = true := by rfl) (hs : starEach (e :: es) X.env = (false, eval e X.env) :: starEach es X.env := by rfl) (hplain : (backTo cpos (starEach es X.env)).any (·.1) = false := by rfl) :
    PEg X (.Call (.Attribute o "append" apos) (e :: es) [] cpos) (tBM K "list" rAppend to t) := by
  subst hK
  refine ⟨fun T pins s σ H Q hT I h => wpAny_Call_method_late hbase hfew hline rfl (thn (ho.run T pins s σ H _ hT I h) fun v s1 ⟨g1, x, H1, I1, r1, ty, q1⟩ => ?_)⟩
  obtain ⟨h1, h2⟩ := tyV_is I1 r1 ty
  refine ⟨"list", "list.append", PySem.F.plainAttrs_list, PySem.F.slot_list_append, PySem.F.type_list_append, h1, h2, ?_⟩
  have hA := ha.run T cpos pins s1 σ H1 _ g1 I1 q1
  rw [hs] at hA ⊢
  refine Calls.callWith_builtin (by show (false || (backTo cpos (starEach es X.env)).any (·.1)) = false; rw [hplain] <;> rfl) (Calls.evalArgs_plain (thn hA fun us s2 ⟨g2, vs, H2, I2, r2, q2⟩ => ?_))
  obtain ⟨l, xs, y, e1, e2, hH, hz, q⟩ := q2
  subst e1 e2
  cases r1
  obtain ⟨u1, rfl, ru⟩ := r2.one
  obtain ⟨z, its, n, r, hl, eL⟩ := I2.lstM hH
  refine call_meets F.slot_list_append ⟨_, eL, rfl⟩ F.entry_list_append (F.args_list_append_2 _ _) (PySem.list_append l its.toArray n u1 (by rw [List.size_toArray]; omega)) ⟨eL, ?_⟩
  refine ⟨g2, .non, _, I2.lset (its' := its ++ [u1]) hH eL (by simp) (r.append (.cons ru .nil)) (by rw [List.length_append, List.length_singleton]; omega), rfl, q⟩
end
end Lw
/-! for x in o.m(..), a generator. -/
namespace Lw
open PySem PySem.Spec PyProof.Rows L2 GenW
/-! ### what of the kept heap a generator leans on -/
def leanB : HO → Bool
  | .dT _ => false
  | .own _ => false
  | .frz _ u => leanB u
  | _ => true
def gN (g : Hp) : Hp := fun b => match g b with
  | some o => if leanB o = true then some o else none
  | none => none
def OwnOf : HO → Addr → Prop
  | .ins _ dx _, b => dx = b
  | .frz _ u, b => OwnOf u b
  | _, _ => False
open Classical in
noncomputable def GG (g H : Hp) : Hp := fun b => if gN g b ≠ none then gN g b else if ∃ a o, gN g a = some o ∧ OwnOf o b then H b else none
theorem gN_lean {g : Hp} {b : Addr} {o : HO} (e : gN g b = some o) : leanB o = true := by
  unfold gN at e
  split at e
  · split at e
    · rename_i h
      cases e
      exact h
    · exact nomatch e
  · exact nomatch e
theorem nt_of {o : HO} (h : leanB o = true) : NoT o := by
  induction o with
  | frz ob u ih => exact ih h
  | dT kvs => exact nomatch (show false = true from h)
  | _ => trivial
theorem own_of {P : Program} {w : World} {H : Hp} {h : Heap} {a b : Addr} {o : HO} (x : ObjOk P w H h a o) (e : OwnOf o b) : H b = some (.own a) := by
  induction o with
  | ins C dx fs => have e : dx = b := e; rw [← e]; exact x.1
  | frz ob u ih => exact ih x.2 e
  | _ => exact False.elim e
/-- less is told, but the own dict -/
theorem ObjOk.restr {P : Program} {w : World} {H G : Hp} {h : Heap} {a : Addr} {o : HO} (x : ObjOk P w H h a o) (l : leanB o = true) (k : ∀ b, OwnOf o b → H b = some (.own a) → G b = some (.own a)) : ObjOk P w G h a o := by
  induction o with
  | ins C dx fs => exact ⟨k dx rfl x.1, x.2⟩
  | frz ob u ih => exact ⟨x.1, ih x.2 l k⟩
  | dT kvs => exact nomatch (show false = true from l)
  | own y => exact nomatch (show false = true from l)
  | _ => exact x
theorem gg_cases {g H : Hp} {b : Addr} {o : HO} (e : GG g H b = some o) : gN g b = some o ∨ (gN g b = none ∧ H b = some o ∧ ∃ a o', gN g a = some o' ∧ OwnOf o' b) := by
  unfold GG at e
  split at e
  · exact .inl e
  · rename_i h1
    have h1 : gN g b = none := by simpa using h1
    split at e
    · rename_i h2
      exact .inr ⟨h1, e, h2⟩
    · exact nomatch e
theorem gg_1 {g H : Hp} {b : Addr} {o : HO} (e : gN g b = some o) : GG g H b = some o := by
  unfold GG
  rw [if_pos (by rw [e]; exact fun z => nomatch z)]; exact e
theorem gg_2 {g H : Hp} {a b : Addr} {o o' : HO} (e : gN g a = some o') (w : OwnOf o' b) (sm : Same (gN g) H) (h : H b = some o) : GG g H b = some o := by
  cases q : gN g b with
  | some o2 =>
    have z := sm _ _ q
    rw [h] at z
    cases z
    exact gg_1 q
  | none =>
    unfold GG
    rw [if_neg (by rw [q]; exact fun z => z rfl), if_pos ⟨a, o', e, w⟩]; exact h
theorem gg_ok {P : Program} {w : World} {g H : Hp} {h : Heap} (k : HOk P w H h) (sm : Same (gN g) H) : GOk P w (GG g H) H h := by
  refine ⟨fun b o e => ?_, fun b o e => ?_, fun b o e => ?_⟩
  · rcases gg_cases e with z | ⟨_, z, _⟩
    · exact sm _ _ z
    · exact z
  · rcases gg_cases e with z | ⟨_, z, a, o', z1, z2⟩
    · exact ObjOk.restr (k b o (sm _ _ z)) (gN_lean z) fun c oc hc => gg_2 z oc sm hc
    · have y := own_of (k a o' (sm _ _ z1)) z2
      rw [z] at y
      cases y
      exact k b _ z
  · rcases gg_cases e with z | ⟨_, z, a, o', z1, z2⟩
    · exact nt_of (gN_lean z)
    · have y := own_of (k a o' (sm _ _ z1)) z2
      rw [z] at y
      cases y
      trivial
theorem gg_same {P : Program} {w : World} {g H H' : Hp} {h h' : Heap} (k : HOk P w H h) (sm : Same (gN g) H) (k' : HOk P w H' h') (sm' : Same (gN g) H') : Same (GG g H) (GG g H') := fun b o e => by
  rcases gg_cases e with z | ⟨_, z, a, o', z1, z2⟩
  · exact gg_1 z
  · have y := own_of (k a o' (sm _ _ z1)) z2
    rw [z] at y
    cases y
    exact gg_2 z1 z2 sm' (own_of (k' a o' (sm' _ _ z1)) z2)
theorem gg_hok {P : Program} {w : World} {g H H' : Hp} {h h' : Heap} (k : HOk P w H h) (sm : Same (gN g) H) (k' : HOk P w H' h') (sm' : Same (gN g) H') : HOk P w (GG g H) h' := fun b o e =>
  ObjOk.sub ((gg_ok k sm).hok b o e) ((gg_ok k' sm').hok b o (gg_same k sm k' sm' b o e)) ((gg_ok k sm).nt b o e)
end Lw
/-! A generator made by o.m(..); for over it. -/
namespace Lw
open PySem PySem.Spec PyProof.Rows L2 GenW
abbrev TGq := L2.St → Hp → (Hp → List V → Hp → Prop) → Prop
/-- an expression that gives a generator that has not begun: what it leans on, what it will hand out -/
structure PGq (X : Cx) (k : Nat) (e : Expr) (tq : TGq) : Prop where
  run : ∀ (pins : List (Addr × Obj)) (s : Shared) (σ : L2.St) (H : Hp) (R : Hp → List V → Hp → Prop), Inv X pins σ H s → tq σ H R → wpAny (model X.prog X.w) X.A (eval e X.env)
    (fun u s' => ∃ H1 sc g xs, Inv X pins σ H1 sc ∧ Same (gN g) H1 ∧ GMd X.prog X.w k X.stack X.base (GG g H1) xs sc u s' ∧ R g xs H1) X.xe s
structure MetQ (P : Program) (w : World) (K : PySem.W.Frag) (mg : Str → Option Value) (base : Heap) (C : Addr) (m : Str) (k : Nat) (ps : List Str) (sp : List V → Hp → List V → Prop) : Prop where
  c : Cls K C
  ex : ∃ f fd, Meth K C m f ∧ Binds K fd ps [] ∧ GFq P w K mg base k f fd ps sp
def tMethQ (C : Addr) (m : Str) (sp : List V → Hp → List V → Prop) (ta : TE) (t : TA) : TGq := fun σ H R => ta σ H fun x H1 => ∃ a dx fs, x = .ref a ∧ H1 a = some (.ins C dx fs) ∧ fs.lookup m = none ∧
  t σ H1 fun vs H2 => ∃ g xs, Same (gN g) H2 ∧ (∀ G, Same (gN g) G → sp (x :: vs) G xs) ∧ R g xs H2
section
variable {X : Cx} {k : Nat} {C : Addr} {m : Str} {ps : List Str} {sp : List V → Hp → List V → Prop} {o e : Expr} {es : List Expr} {ta : TE} {t : TA} {apos pos' : Pos}
theorem pgq_meth {pl : Sem Bool} (M : MetQ X.prog X.w X.K X.mg X.base C m k ps sp) (hr : Room k X.A) (he : PE X o ta) (ha : PA X (e :: es) t)
    (hst : starEach (e :: es) X.env = (false, eval e X.env) :: starEach es X.env := by rfl) (hpl : (backTo pos' (starEach es X.env)).any (·.1) = false := by rfl)
    (ht : eval (.Call (.Attribute o m apos) (e :: es) [] pos') X.env = (do
      let ov ← eval o X.env
      standAt apos.atName
      let (f, first) ← holding [ov] (getMethod ov m pl)
      callWith pos' f first (backTo pos' (starEach (e :: es) X.env)) (backToKw pos' (keywordEach [] X.env))) := by rfl) :
    PGq X k (.Call (.Attribute o m apos) (e :: es) [] pos') (tMethQ C m sp ta t) := by
  obtain ⟨f, fd, hm, bi, F⟩ := M.ex
  refine ⟨fun pins s σ H R I h => PySem.W.methodCall_KW (pl := pl) (thn (he.run pins s σ H _ I h) fun u s1 ⟨x, H1, I1, rx, a, dx, fs, ex, ea, l, q⟩ => ?_) ht⟩
  subst ex
  obtain rfl : u = Value.ref a := rx
  refine getmeth_ok I1 ea M.c hm l (PySem.W.callWith_K (first := [.ref a]) (h₀ := X.base) I1.ok.mod.kin hm.kp (thn (ha.run pos' pins s1 σ H1 _ I1 q) fun us s2 ⟨vs, H2, I2, r, g, xs, sm, hsp, hR⟩ => ⟨I2.kIn, ?_⟩) hst hpl)
  have ok := gg_ok I2.hok sm
  have sg : Same (gN g) (GG g H2) := fun b o e => gg_1 e
  have rv : Vals (.ref a :: vs) (.ref a :: us) := .cons rfl r
  have hl : (Value.ref a :: us).length = ps.length := by rw [← rv.length]; exact F.len _ _ _ (hsp _ sg)
  have b2 := bi s2 (.ref a :: us) I2.kIn (by rw [List.append_nil]; exact hl)
  refine wpAny_call (codeAny_mono (F.run X.A X.stack s2 H2 ⟨.ref a :: us, []⟩ (.ref a :: us) (.ref a :: vs) (GG g H2) xs hr I2.env0 (by rw [List.append_nil] at b2; exact b2) rv (hsp _ sg) ok) fun r s' hq => ?_)
  cases r with
  | error e => exact False.elim hq
  | ok fl =>
    cases fl with
    | ret u => exact ⟨H2, s2, g, xs, I2, sm, hq, hR⟩
    | _ => exact False.elim hq
end
end Lw
/-! for x in o.m(..): the consumer of a generator. -/
namespace Lw
open PySem PySem.Spec PyProof.Rows L2 GenW
/-! ### the table of generators never shrinks -/
theorem setGen_size {s : Shared} {g : Nat} {x : GenState} : (s.setGen g x).gens.size = s.gens.size := by simp [Shared.setGen]
theorem runs_size {M : Model} {G : PySem.Ctx} {p : Pos} {t : Sem PySem.Fin} {fs : List Frame} {s : Shared} {e : PySem.End} {s' : Shared} (r : Runs M G p t fs s e s') : s.gens.size ≤ s'.gens.size := by
  induction r <;> (try simp only [setGen_size, Array.size_push] at *) <;> (first | exact Nat.le_refl _ | assumption | omega)
theorem wk_size {M : Model} {A : Around} {Z : PySem.End → Shared → Prop} {c : Code} {t : Sem PySem.Fin} {fs : List Frame} {s : Shared} (h : Wk M A Z c t fs s) : Wk M A (fun e s' => Z e s' ∧ s.gens.size ≤ s'.gens.size) c t fs s := fun G p hc hG => by
  obtain ⟨e, s', r, z⟩ := h G p hc hG
  exact ⟨e, s', r, z, runs_size r⟩
theorem goes_size {M : Model} {A : Around} {Z : PySem.End → Shared → Prop} {gs : GenState} {s : Shared} (h : Goes1 M A Z gs s) : Goes1 M A (fun e s' => Z e s' ∧ s.gens.size ≤ s'.gens.size) gs s := by
  cases gs with
  | fresh c => exact wk_size h
  | suspended k l c p fs cl => exact wk_size h
  | running => exact h
  | finished => exact h
theorem bare_set {s : Shared} {g : Nat} {x : GenState} (h : AllBare s.gens) (hx : x.bare = true) : AllBare (s.setGen g x).gens := fun y hy => by
  obtain ⟨i, hi, e⟩ := Array.getElem_of_mem hy
  have e : (s.gens.setIfInBounds g x)[i]'hi = y := e
  have hi2 : i < (s.gens.setIfInBounds g x).size := hi
  have hi3 : i < s.gens.size := by rw [Array.size_setIfInBounds] at hi2; exact hi2
  have q := Array.getElem_setIfInBounds (xs := s.gens) (i := g) (a := x) (j := i) (hj := hi3)
  have e := q.symm.trans e
  split at e
  · rw [← e]; exact hx
  · rw [← e]; exact h _ (Array.getElem_mem _)
theorem set_at {s : Shared} {g : Nat} {x : GenState} (h : g < s.gens.size) : (s.setGen g x).gens[g]? = some x := by
  show (s.gens.setIfInBounds g x)[g]? = some x
  rw [Array.getElem?_setIfInBounds_self_of_lt h]
theorem ObjOk.ob {P : Program} {w : World} {H : Hp} {h : Heap} {a : Addr} {o : HO} (x : ObjOk P w H h a o) : ∃ ob, h.get? a = some ob := by
  cases o with
  | lst xs => obtain ⟨_, _, _, _, e⟩ := x; exact ⟨_, e⟩
  | tup xs => obtain ⟨_, _, _, ob, e, _⟩ := x; exact ⟨_, e⟩
  | dK kvs => obtain ⟨_, _, _, _, ob, _, _, e, _⟩ := x; exact ⟨_, e⟩
  | dT kvs => obtain ⟨_, _, _, _, ob, _, _, e, _⟩ := x; exact ⟨_, e⟩
  | set S n => obtain ⟨ob, _, _, _, e, _⟩ := x; exact ⟨_, e⟩
  | ins C dx fs => obtain ⟨_, _, _, e, _⟩ := x; exact ⟨_, e⟩
  | own _ => exact x
  | xd fs => obtain ⟨_, ⟨ob, _, _, e, _⟩, _⟩ := x; exact ⟨_, e⟩
  | rng lo hi => obtain ⟨_, _, _, e⟩ := x; exact ⟨_, e⟩
  | frz ob u => exact ⟨_, x.1⟩
  | tbl ps => exact ⟨_, x⟩
  | met f y => exact ⟨_, x⟩
  | ext φ => exact x.2.1
/-! ### a name is stored -/
section
variable {X : Cx} {pins : List (Addr × Obj)} {σ : L2.St} {H H1 : Hp} {s s' sc : Shared} {x : Str} {i : Nat} {v : V} {u : Value}
theorem inv_local {m : Str → Option Value} {h' : Heap} {t' : Nat} (I : Inv X pins σ H s) (hN : X.N.Nodup) (hi : X.N[i]? = some x) (hk : X.env.scope.names.lookup x = some .local) (r : RelV v u)
    (hl : ∀ (j : Nat) (y : Str) (w : V), X.N[j]? = some y → σ[j]? = some (some w) → Vis X.env.scope y → ∃ q, RelV w q ∧ Look X.env s.heap m y q)
    (hn : h'.Ns X.env.locals (fun y => if y = x then some u else m y)) (hs : Heap.SameBut X.env.locals s.heap h') : Inv X pins (σ.set i (some v)) H { s with heap := h', toks := t' } := by
  have il : i < σ.length := by
    have := (List.getElem?_eq_some_iff.mp hi).1
    have := I.len
    omega
  have off : ∀ {b o}, X.s_0.heap.get? b = some o → h'.get? b = s.heap.get? b := fun {b o} e => hs.2 b (Nat.ne_of_lt (Nat.lt_of_lt_of_le (Heap.lt_size e) I.ok.above))
  have lay : ∃ o, s.heap.get? X.env.locals = some o := by
    obtain ⟨_, ⟨o, _, _, e, _⟩, _⟩ := I.loc
    exact ⟨o, e⟩
  exact {
    ok := I.ok
    os := I.os
    bare := I.bare
    base := {
      keep := fun b o e n f z => by show h'.get? b = _; rw [off e]; exact I.base.keep b o e n f z
      slot := fun b o e n f z => by show ∃ sl, h'.get? b = _; rw [off e]; exact I.base.slot b o e n f z
      free := I.base.free
      there := fun b o e z => by show ∃ o', h'.get? b = _; rw [off e]; exact I.base.there b o e z
      tups := I.base.tups
      frzs := I.base.frzs
      tbls := I.base.tbls }
    loc := ⟨_, hn, fun j y w a b c => by
      by_cases hj : i = j
      · subst hj
        rw [List.getElem?_set_self il] at b
        cases b
        have ey : x = y := Option.some.inj (hi.symm.trans a)
        subst ey
        exact ⟨u, r, .inl ⟨hk, by simp⟩⟩
      · rw [List.getElem?_set_ne hj] at b
        obtain ⟨q, rq, lk⟩ := hl j y w a b c
        have ny : y ≠ x := fun z => hj (nodup_ix hN hi (z ▸ a))
        rcases lk with ⟨h1, h2⟩ | ⟨h1, c', h2, h3⟩
        · exact ⟨q, rq, .inl ⟨h1, (if_neg ny).trans h2⟩⟩
        · exact ⟨q, rq, .inr ⟨h1, c', h2, h3.sameBut hs (I.cne y c' h2)⟩⟩⟩
    cell := fun y c e => by
      obtain ⟨w, z⟩ := I.cell y c e
      exact ⟨w, z.sameBut hs (I.cne y c e)⟩
    free := I.free
    freeC := I.freeC
    pin := fun p hp => by
      obtain ⟨a, b, c, d⟩ := I.pin p hp
      exact ⟨by show h'.get? p.1 = _; rw [hs.2 p.1 c]; exact a, b, c, d⟩
    hok := fun b o e => (I.hok b o e).stay (fun c w hc q => by
      have : c ≠ X.env.locals := fun z => by
        have fr := I.free
        rcases hc with hc | hc
        · rw [← z, hc] at fr; rw [fr] at e; cases e
        · rw [← z] at fr; rw [fr] at hc; cases hc
      show h'.get? c = _
      rw [hs.2 c this]; exact q) (fun _ q => q) fun _ _ q => q
    len := by rw [List.length_set]; exact I.len }
structure PGg (X : Cx) (e : Expr) (g : TG) : Prop where
  run : ∀ (T : Array GenState) (pins : List (Addr × Obj)) (s : Shared) (σ : L2.St) (H : Hp) (v : V) (u : Value) (Q : L2.St → Hp → Prop), s.gens = T → Inv X pins σ H s → RelV v u → g v σ H Q → wpAny (model X.prog X.w) X.A (assign e X.env u) (fun _ s' => s'.gens = T ∧ ∃ σ' H', Inv X pins σ' H' s' ∧ Q σ' H') X.xe s
theorem pgg_name {pos : Pos} (hN : X.N.Nodup) (hi : X.N[i]? = some x) (hk : X.env.scope.names.lookup x = some .local) : PGg X (.Name x pos) (gName i) := by
  refine ⟨fun T pins s σ H v u Q hT I r h => wpAny_assign_Name ?_⟩
  obtain ⟨m, hn, hl⟩ := id I.loc
  have hc : (X.env.scope.kind == .class || (X.env.scope.kind == .module && X.env.locals != X.env.globals)) = false := by rw [I.ok.kind]; rfl
  exact wpAny_storeName_local hk hn (fun h' hn' hs => ⟨hT, _, H, inv_local I hN hi hk r hl hn' hs, h⟩) hc
/-! ### behind a wake -/
theorem inv_woke {pv : Pv} {σ1 : L2.St} {lo : Addr} {g : Hp} {s0 s1 : Shared} (I1 : Inv X pins σ1 H1 sc) (I : Inv X (pins ++ pv) σ H s) (hlo : sc.heap.objs.size ≤ lo) (hpv : ∀ p ∈ pv, lo ≤ p.1) (sm1 : Same (gN g) H1) (sm : Same (gN g) H)
    (eh : s0.heap = s.heap) (eo0 : s0.os = s.os) (st : StepQ X.prog X.w X.stack (GG g H1) pv s0 s1) (eo : s'.os = s1.os) (kp : ∀ b o, s1.heap.get? b = some o → s'.heap.get? b = some o) (bare : AllBare s'.gens) : Inv X pins σ H s' := by
  have Ip : Inv X pins σ H s := I.pins_of fun p hp => I.pin p (List.mem_append_right _ (List.mem_append_left _ hp))
  have sG : Same (GG g H1) H := fun b o e => (gg_ok I.hok sm).sub _ _ (gg_same I1.hok sm1 I.hok sm b o e)
  have gN0 : ∀ {b}, H b = none → GG g H1 b = none := fun {b} e => by
    cases q : GG g H1 b with
    | none => rfl
    | some o => rw [sG _ _ q] at e; cases e
  have np : ∀ {b}, H b ≠ none → ∀ p ∈ pv, p.1 ≠ b := fun {b} n p hp z => n (by rw [← z]; exact (I.pin p (List.mem_append_right _ (List.mem_append_right _ hp))).2.1)
  have nm : ∀ {b}, b ∉ pv.map (·.1) → ∀ p ∈ pv, p.1 ≠ b := fun {b} n p hp z => n (List.mem_map.mpr ⟨p, hp, z⟩)
  have hok : HOk X.prog X.w H s1.heap := fun b o e => by
    cases q : GG g H1 b with
    | some o' =>
      have e2 := sG _ _ q
      rw [e] at e2
      cases e2
      exact (st.hok b o q).stay (fun _ _ _ z => z) (fun d z => sG _ _ z) fun d xs z => sG _ _ z
    | none =>
      refine (I.hok b o e).stay (fun d v hd z => ?_) (fun _ z => z) fun _ _ z => z
      have nd : H d ≠ none := by
        rcases hd with hd | hd
        · rw [hd, e]; exact fun z => nomatch z
        · rw [hd]; exact fun z => nomatch z
      have gd : GG g H1 d = none := by
        rcases hd with hd | hd
        · rw [hd]; exact q
        · cases y : GG g H1 d with
          | none => rfl
          | some o2 =>
            have e2 := sG _ _ y
            rw [hd] at e2
            cases e2
            rcases gg_cases y with w | ⟨_, w, a, o', z1, z2⟩
            · exact nomatch (show leanB (.own b) = true from gN_lean w)
            · have w2 := own_of (I.hok a o' (sm _ _ z1)) z2
              rw [hd] at w2
              cases w2
              rw [gg_1 z1] at q
              cases q
      refine st.keep d v (by rw [eh]; exact z) (fun w => nd (Ip.env0.frf d w)) (np nd) gd
  refine Ip.call' (ch := pv.map (·.1)) (eo.trans (st.os.trans eo0)) ⟨fun b o e n f z => ?_, fun b o e n f z => ?_, fun b o e n z => n, fun b o e z => ?_, fun _ _ z => z, fun _ _ _ z => z, fun b ps z => ⟨#[], by simpa using z⟩⟩ (hok.kept kp) bare fun b hb => ?_
  · exact kp _ _ (st.keep b o (by rw [eh]; exact e) f (nm z) (gN0 n))
  · obtain ⟨sl, q⟩ := st.slot b o (by rw [eh]; exact e) f
    exact ⟨sl, kp _ _ q⟩
  · obtain ⟨o', q⟩ := st.there b o (by rw [eh]; exact e) (nm z)
    exact ⟨o', kp _ _ q⟩
  · obtain ⟨p, hp, rfl⟩ := List.mem_map.mp hb
    obtain ⟨q1, q2, q3, q4, q5⟩ := I.pin p (List.mem_append_right _ (List.mem_append_right _ hp))
    have hl := hpv p hp
    refine ⟨.inr (Nat.le_trans I1.sz (Nat.le_trans hlo hl)), q3, fun y c e z => ?_, fun q hq z => ?_⟩
    · obtain ⟨w, o, e1, e2⟩ := I.cell y c e
      rw [z, q1] at e1
      cases e1
      exact q5 w e2
    · exact Nat.ne_of_lt (Nat.lt_of_lt_of_le (Heap.lt_size (I1.pin q hq).1) (Nat.le_trans hlo hl)) z
end
/-! ### the loop -/
def tForG (tq : TGq) (gt : TG) (tb : TS) : TS := fun D σ H => tq σ H fun g xs H1 => ∃ W : List V → L2.St → Hp → Prop, W xs σ H1 ∧ ∀ ys σ' H', W ys σ' H' → Same (gN g) H' ∧ match ys with
  | [] => D.nx σ' H'
  | y :: zs => gt y σ' H' fun σ2 H2 => tb { D with nx := W zs, ct := W zs, bk := D.nx } σ2 H2
section
variable {X : Cx} {tg e : Expr} {body : List Stmt} {pos : Pos} {tq : TGq} {gt : TG} {tb : TS} {k : Nat}
theorem ps_forG (hp : PassesOwn (model X.prog X.w) X.A X.env X.xe) (hr : Room (k + 1) X.A) (hq : PGq X k e tq) (hg : PGg X tg gt) (hb : PSsg X body tb) (hs : ∀ x, foldedSetIterable e X.env x = pure x := by intro _; rfl)
    (ht : ∀ it v, letOwnedTupleGo tg it v = pure () := by intro _ _; rfl) : PS X (.For tg e body [] pos) (tForG tq gt tb) := by
  refine ⟨fun pins s σ H D I h => ?_⟩
  refine wpAny_For (thn (hq.run pins s σ H _ I h) fun u s1 ⟨H1, sc, g, xs, I1, sm1, gm, W, w0, turn⟩ => ?_) hs
  obtain ⟨a, lo, n, go, ol, c, rfl, hlo, hla, ea, isg, ncd, elo, ncl, eg, eos, bare, keep, slp⟩ := gm
  refine wpAny_pyIter_gen (isg _ ea) ?_
  have I2 : Inv X pins σ H1 s1 := I1.call' (ch := []) eos (Un.kept keep) (I1.hok.kept keep) bare (fun b z => nomatch z)
  have fresh : ∀ {b : Addr}, sc.heap.objs.size ≤ b → H1 b = none ∧ b ≠ X.env.locals ∧ b ∉ X.fs := fun {b} hb => ⟨I1.hok.fresh hb, Nat.ne_of_gt (Nat.lt_of_lt_of_le I1.lt hb), I1.nofs hb⟩
  have I3 : Inv X (pins ++ [(lo, ol), (a, go)]) σ H1 s1 := I2.pins_of fun p hp => by
    rcases List.mem_append.mp hp with z | z
    · exact I2.pin p (List.mem_append_right _ z)
    · rcases List.mem_cons.mp z with z | z
      · rw [z]; exact ⟨elo, (fresh hlo).1, (fresh hlo).2.1, (fresh hlo).2.2, ncl⟩
      · rw [List.mem_singleton.mp z]
        have := fresh (b := a) (Nat.le_trans hlo (Nat.le_of_lt hla))
        exact ⟨ea, this.1, this.2.1, this.2.2, ncd⟩
  refine codeAny_forLoop_any (fun m s' => ∃ ys σ' H' gs pv, m = ys.length ∧ Inv X (pins ++ pv) σ' H' s' ∧ s'.gens[n]? = some gs ∧ (a, go) ∈ pv ∧ (∀ p ∈ pv, lo ≤ p.1) ∧ Slp X.prog X.w X.A.in1 X.base X.stack (GG g H1) lo (a, go) ys pv gs ∧ W ys σ' H') ?_ xs.length
    ⟨xs, σ, H1, _, _, rfl, I3, eg, by simp, fun p hp => ?_, slp _ hr.in1 I1.env0.frames, w0⟩
  rotate_left
  · rcases List.mem_cons.mp hp with z | z
    · rw [z]; exact Nat.le_refl _
    · rw [List.mem_singleton.mp z]; exact Nat.le_of_lt hla
  rintro m s3 ⟨ys, σ3, H3, gs, pv, rfl, I3, eg3, hq3, hlo3, sl3, w3⟩
  obtain ⟨sm3, tn⟩ := turn ys σ3 H3 w3
  have pin3 := fun p (hp : p ∈ pv) => I3.pin p (List.mem_append_right _ (List.mem_append_right _ hp))
  have n3 : n < s3.gens.size := (Array.getElem?_eq_some_iff.mp eg3).1
  have WQ : WakeQ X.prog X.w X.base X.stack (GG g H1) pv (s3.setGen n .running) := ⟨bare_set I3.bare rfl, I3.bk, I3.env0.funs, gg_hok I1.hok sm1 I3.hok sm3, fun p hp => (pin3 p hp).1⟩
  refine next_wake (gs := gs) (g := n) (Z := fun e s1 => ZZ X.prog X.w X.A.in1 X.base X.stack (GG g H1) lo (a, go) ys pv (s3.setGen n .running) e s1 ∧ (s3.setGen n .running).gens.size ≤ s1.gens.size) hr.hd I3.nolimit hr.depth (isg _ (pin3 _ hq3).1) eg3 (goes_size (slp_iff.mp sl3 _ WQ)) (fun e s1 z => ?_) (fun e s1 z => ?_)
  · obtain ⟨z, _⟩ := z
    cases ys with
    | nil =>
      obtain ⟨he, _⟩ := z
      rcases he with rfl | rfl <;> rfl
    | cons y zs =>
      obtain ⟨_, _, _, _, _, _, _, hqt, _⟩ := z
      exact hqt
  · obtain ⟨z, zs1⟩ := z
    have n1 : n < s1.gens.size := by rw [setGen_size] at zs1; omega
    cases ys with
    | nil =>
      obtain ⟨he, st⟩ := z
      refine .inl ⟨he, fun h' kp => ?_⟩
      exact wpAny_execs_nil ⟨σ3, H3, inv_woke (s0 := s3.setGen n .running) (s1 := s1) I1 I3 hlo hlo3 sm1 sm3 rfl rfl st rfl kp (bare_set st.bare rfl), tn⟩
    | cons y zs =>
      obtain ⟨v, l, kk, cc, p, fs, rfl, qt, rv, st, pv', ok, sl⟩ := z
      refine .inr ⟨v, l, kk, cc, p, fs, rfl, ?_⟩
      have I4 : Inv X pins σ3 H3 (s1.setGen n (PySem.End.susp v false l kk cc p fs).genState) := inv_woke (s0 := s3.setGen n .running) (s1 := s1) I1 I3 hlo hlo3 sm1 sm3 rfl rfl st rfl (fun _ _ e => e) (bare_set st.bare (End.bare_of_quiet qt))
      have I5 : Inv X (pins ++ pv') σ3 H3 (s1.setGen n (PySem.End.susp v false l kk cc p fs).genState) := I4.pins_of fun q hq => by
        rcases List.mem_append.mp hq with z | z
        · exact I4.pin q (List.mem_append_right _ z)
        · refine ⟨ok.at_ q z, ?_⟩
          have three : H3 q.1 = none ∧ q.1 ≠ X.env.locals ∧ q.1 ∉ X.fs := by
            rcases ok.old q z with w | w
            · obtain ⟨r, hr, e⟩ := List.mem_map.mp w
              obtain ⟨_, a1, a2, a3, _⟩ := pin3 r hr
              rw [← e]; exact ⟨a1, a2, a3⟩
            · have w : s3.heap.get? q.1 = none := w
              refine ⟨?_, fun z => ?_, fun z => ?_⟩
              · cases y : H3 q.1 with
                | none => rfl
                | some o =>
                  obtain ⟨ob, e⟩ := ObjOk.ob (I3.hok _ _ y)
                  rw [w] at e; cases e
              · obtain ⟨_, ⟨o, _, _, e, _⟩, _⟩ := I3.loc
                rw [← z, w] at e; cases e
              · obtain ⟨_, o, e, _⟩ := I3.env0.funs.mem (b := q.1) (by
                  rcases I3.ok.stk with e | ⟨e, hf⟩
                  · rw [e]; exact z
                  · rw [e, List.filterMap_cons]; split
                    · exact z
                    · exact List.mem_cons_of_mem _ z)
                rw [w] at e; cases e
          exact ⟨three.1, three.2.1, three.2.2, ok.cell q z⟩
      show wpAny _ _ (letOwnedTupleGo tg (.ref a) v) _ _ _
      rw [ht]
      refine wpAny_pure ?_
      refine wpAny_passesOwn hp (thn (hg.run _ _ _ σ3 H3 y v _ rfl I5 rv tn) fun _ s6 ⟨g6, σ6, H6, I6, q6⟩ => ?_)
      refine wpAny_passesOwn hp (thn (hb.run _ _ s6 σ6 H6 _ g6 I6 q6) fun f s7 ⟨g7, q7⟩ => ?_)
      have again : ∀ {σ7 : L2.St} {H7 : Hp}, Inv X (pins ++ pv') σ7 H7 s7 → W zs σ7 H7 → ∃ m, m < (y :: zs).length ∧ ∃ ys σ' H' gs pv, m = ys.length ∧ Inv X (pins ++ pv) σ' H' s7 ∧ s7.gens[n]? = some gs ∧ (a, go) ∈ pv ∧ (∀ p ∈ pv, lo ≤ p.1) ∧ Slp X.prog X.w X.A.in1 X.base X.stack (GG g H1) lo (a, go) ys pv gs ∧ W ys σ' H' := fun {σ7 H7} I7 w7 =>
        ⟨zs.length, Nat.lt_succ_self _, zs, σ7, H7, _, pv', rfl, I7, by rw [g7]; exact set_at n1, ok.gen, ok.lo, sl, w7⟩
      have un : ∀ {σ7 : L2.St} {H7 : Hp}, Inv X (pins ++ pv') σ7 H7 s7 → Inv X pins σ7 H7 s7 := fun {σ7 H7} I7 => I7.unpinned
      cases f with
      | next => obtain ⟨σ7, H7, I7, n7⟩ := q7; exact again I7 n7
      | cont => obtain ⟨σ7, H7, I7, n7⟩ := q7; exact again I7 n7
      | brk => obtain ⟨σ7, H7, I7, q7⟩ := q7; exact ⟨σ7, H7, un I7, q7⟩
      | ret v => obtain ⟨x7, σ7, H7, I7, r7, q7⟩ := q7; exact ⟨x7, σ7, H7, un I7, r7, q7⟩
end
end Lw
/-! Generators, typed: what one hands out, for over it. -/
namespace Lw
open PySem PySem.Spec PyProof.Rows L2 GenW ClX
section
variable {K : PySem.W.Frag} {env : Env K} {os : Os} {ta te : TE} {t : TA} {C : Addr} {fs : List (Str × Slot K)} {α κ : Type} [iα : Py K α] [iκ : Py K κ] [pk : PyK K κ]
/-! ### values whose objects a generator may lean on -/
theorem gN_at {g : Hp} {a : Addr} {o : HO} (e : g a = some o) (l : leanB o = true) : gN g a = some o := by unfold gN; rw [e]; exact if_pos l
theorem gN_of {g : Hp} {a : Addr} {o : HO} (e : gN g a = some o) : g a = some o := by
  unfold gN at e
  split at e
  · rename_i o' h
    split at e
    · rw [h]; exact e
    · exact nomatch e
  · exact nomatch e
def LeanS (s : Slot K) : Prop := ∀ g o, s.ok g o → s.ok (gN g) o
class PyL (K : PySem.W.Frag) (α : Type) [i : Py K α] : Prop where
  lean : ∀ {g : Hp} {v : V} {x : α}, i.R g v x → i.R (gN g) v x
instance : PyL K Int := ⟨fun h => h⟩
instance : PyL K Bool := ⟨fun h => h⟩
instance : PyL K Str := ⟨fun h => h⟩
instance [PyL K α] : PyL K (Tup α) := ⟨fun ⟨a, vs, h1, h2, h3⟩ => ⟨a, vs, h1, gN_at h2 rfl, paired_mono (fun _ _ q => PyL.lean q) h3⟩⟩
theorem gN_seq {g : Hp} {a : Addr} {vs : List V} (h : SqL K g a vs) : SqL K (gN g) a vs := by
  rcases h with (h | ⟨o, h⟩) | h
  · exact .inl (.inl (gN_at h rfl))
  · exact .inl (.inr ⟨o, gN_at h rfl⟩)
  · exact .inr h
instance [PyL K α] : PyL K (List α) := ⟨fun ⟨a, vs, h1, h2, h3⟩ => ⟨a, vs, h1, gN_seq h2, paired_mono (fun _ _ q => PyL.lean q) h3⟩⟩
instance [DecidableEq κ] [PyL K α] : PyL K (Dic κ α) := ⟨fun ⟨a, o, us, h1, h2, h3⟩ => ⟨a, o, us, h1, gN_at h2 rfl, paired_mono (fun _ _ q => ⟨q.1, PyL.lean q.2⟩) h3⟩⟩
instance : PyL K Sg := ⟨fun h => h⟩
theorem lean_sv [PyL K α] {x : α} : LeanS (K := K) (sv x) := fun g o ⟨v, h1, h2⟩ => ⟨v, h1, PyL.lean h2⟩
theorem lean_unk : LeanS (K := K) .unk := fun _ _ _ => trivial
theorem lean_fs {g : Hp} : ∀ {ws : List (Str × V)} {fs : List (Str × Slot K)}, (∀ p ∈ fs, LeanS p.2) → FsR g ws fs → FsR (gN g) ws fs
  | _, _, _, .nil => .nil
  | _, _, hl, .cons q r => .cons ⟨q.1, hl _ (by simp) _ _ q.2⟩ (lean_fs (fun p hp => hl p (by simp [hp])) r)
theorem lean_args {g : Hp} : ∀ {vs : List V} {ss : List (Slot K)}, (∀ s ∈ ss, LeanS s) → Args g vs ss → Args (gN g) vs ss
  | _, _, _, .nil => .nil
  | _, _, hl, .cons q r => .cons (hl _ (by simp) _ _ q) (lean_args (fun p hp => hl p (by simp [hp])) r)
/-! ### what a generator hands out -/
def kvs (xs : List κ) : List V := xs.map fun x => kV (pk.kk x)
def spQ (K : PySem.W.Frag) (A : List (Slot K) → List V → Prop) : List V → Hp → List V → Prop := fun vs G xs => ∃ ss, A ss xs ∧ Args G vs ss
def EvQ (tq : TGq) (env : Env K) (os : Os) (xs : List V) : Prop := ∀ {b : Bs} {g h : Hp} {σ : L2.St} {R : Hp → List V → Hp → Prop}, S0 b g h σ env os → (∀ g' h', Le g h g' h' → R g' xs h') → tq σ h R
theorem eq_meth {A : List (Slot K) → List V → Prop} {m : Str} {y : α} {ss : List (Slot K)} {xs : List V} (ha : Ev ta env os y) (he : EvA t env os ss) (hR : InsOf K C y fs) (hm : fs.lookup m = none) (hA : A (sv y :: ss) xs) (hl : ∀ s ∈ sv y :: ss, LeanS s) : EvQ (tMethQ C m (spQ K A) ta t) env os xs := fun {b g h σ R} s q =>
  ha s fun v g1 h1 l1 r1 => by
    obtain ⟨a, dx, ws, rfl, h2, h3⟩ := hR _ _ r1
    refine ⟨a, dx, ws, rfl, l1.gh _ _ h2, fsr_none h3 hm, he (s.le l1) fun vs g2 h4 l2 r2 => ⟨g2, xs, fun b o e => l2.gh _ _ (gN_of e), fun G sm => ⟨_, hA, ?_⟩, q g2 h4 (l1.trans l2)⟩⟩
    exact args_mono sm (lean_args hl (.cons ⟨_, rfl, iα.mono l2.gg r1⟩ r2))
/-! ### for over a generator -/
variable {b : Bs} {g h : Hp} {σ : L2.St} {D : Ends}
theorem st_forG {tq : TGq} {gt : TG} {tb : TS} {ws : List Nat} {f : Env K → κ → Env K} {xs : List κ} (hg : TgtF (K := K) gt ws f) (s : S0 b g h σ env os) (e : EvQ tq env os (kvs (K := K) xs)) (I : Nat → Env K → Os → Prop) (h0 : I 0 env os)
    (hs : ∀ n x, xs[n]? = some x → Turn1 b D tb I n (fun e => f e x)) (hd : ∀ env' os' g' h' σ', I xs.length env' os' → S0 b g' h' σ' env' os' → D.nx σ' h') : tForG tq gt tb D σ h := by
  refine e s fun g1 h1 l1 => ⟨fun ys σ' h' => ∃ n env' os' g', n ≤ xs.length ∧ ys = kvs (K := K) (xs.drop n) ∧ I n env' os' ∧ Same g1 g' ∧ S0 b g' h' σ' env' os', ⟨0, env, os, g1, Nat.zero_le _, rfl, h0, Same.refl _, s.le l1⟩, ?_⟩
  rintro ys σ' h' ⟨n, env', os', g', hn, rfl, hI, sg, s'⟩
  refine ⟨fun a o q => s'.gh _ _ (sg _ _ (gN_of q)), ?_⟩
  by_cases hn : n < xs.length
  · have hx := List.getElem?_eq_getElem hn
    rw [List.drop_eq_getElem_cons hn]
    exact turn1_go hg (hs n _ hx) hI s' (pk.rv.mpr rfl) fun env2 os2 g2 h2 σ2 e2 hI2 s2 => ⟨n + 1, env2, os2, g2, hn, rfl, hI2, sg.trans e2, s2⟩
  · have e : n = xs.length := by omega
    subst e
    rw [List.drop_length]
    exact hd env' os' g' h' σ' hI s'
end
/-! ### what stands behind a loop, once -/
theorem st_seq_cut {K : PySem.W.Frag} {b : Bs} {σ : L2.St} {g h : Hp} {D : Ends} {t1 t2 : TS} {env : Env K} {os : Os} (s : S0 b g h σ env os) (J : Env K → Os → Prop) (h1 : ∀ N : L2.St → Hp → Prop, (∀ e o g h σ, J e o → S0 b g h σ e o → N σ h) → t1 { D with nx := N } σ h)
    (h2 : ∀ e o g h σ, J e o → S0 b g h σ e o → t2 D σ h) : tSeq t1 t2 D σ h := h1 (t2 D) h2
/-! ### for d in range(..): if ..: yield .. -/
section
variable {K : PySem.W.Frag} {env : Env K} {κ : Type} [iκ : Py K κ] [pk : PyK K κ]
def StG (K : PySem.W.Frag) (G : Hp) (σ : L2.St) (env : Env K) : Prop := σ.length = env.length ∧ ∀ (i : Nat) (t : Slot K), env[i]? = some t → t.ok G (σ[i]?.join)
theorem StG.s0 {G H : Hp} {σ : L2.St} (e : StG K G σ env) (sm : Same G H) : S0 ⟨[], G, H⟩ G H σ env [] where
  gh := sm
  len := e.1
  sl := e.2
  own := fun p hp => nomatch hp
  nd := List.nodup_nil
  gg := Same.refl _
  fr := fun a o _ q => q
  th := fun a n => n
  new := fun a n _ => n
  ol := fun p hp => nomatch hp
theorem StG.over {G : Hp} {σ : L2.St} {j : Nat} {v : V} (e : StG K G σ env) (hj : env[j]? = some .unk) : StG K G (σ.set j (some v)) env := by
  refine ⟨by rw [List.length_set]; exact e.1, fun i t h => ?_⟩
  by_cases z : j = i
  · subst z
    rw [hj] at h
    cases h
    trivial
  · rw [List.getElem?_set_ne z]; exact e.2 i t h
theorem rng_drop {m n : Int} {k : Nat} (h : k < (n - m).toNat) : (rng m n).drop k = (m + k) :: (rng m n).drop (k + 1) := by
  have hl : k < (rng m n).length := by rw [rng_len]; exact h
  have e := rng_get h
  rw [List.getElem?_eq_getElem hl] at e
  rw [List.drop_eq_getElem_cons hl, Option.some.inj e]
theorem turns_rng {G : Hp} {j : Nat} {tc : TT} {ty : TE} {m n : Int} {p : Int → Bool} {f : Int → κ} (hj : env[j]? = some .unk) (ht : ∀ d ∈ rng m n, EvT tc (env.set j (sv d)) [] (p d)) (hy : ∀ d ∈ rng m n, p d = true → Ev ty (env.set j (sv d)) [] (f d)) :
    Turns G (Itr m (n - m).toNat) (gName j) (tIfY tc (tYd ty)) (fun mm k xs σ Hw H => k ≤ (n - m).toNat ∧ mm = (n - m).toNat - k ∧ xs = kvs (K := K) ((((rng m n).drop k).filter p).map f) ∧ Same G Hw ∧ Same Hw H ∧ StG K G σ env) := by
  rintro mm k xs σ Hw H ⟨hk, rfl, rfl, sG, sH, st⟩
  by_cases hlt : k < (n - m).toNat
  · refine .inr ⟨hlt, fun x H' y => ?_⟩
    obtain ⟨rfl, rfl⟩ := y
    have hd : (m + (k : Int)) ∈ rng m n := List.mem_of_getElem? (rng_get hlt)
    have s1 := (st.s0 (sG.trans sH)).set (i := j) (v := .int (m + k)) (t := sv (m + (k : Int))) ⟨_, rfl, rfl⟩
    show tc _ _ _
    refine ht _ hd s1 fun g1 h1 l1 => ?_
    cases hp : p (m + (k : Int)) with
    | false =>
      rw [if_neg (by decide)]
      refine ⟨(n - m).toNat - (k + 1), by omega, hlt, rfl, ?_, sG, sH.trans l1.hh, st.over hj⟩
      rw [rng_drop hlt, List.filter_cons, if_neg (by rw [hp]; decide)]
    | true =>
      rw [if_pos rfl]
      refine hy _ hd hp (s1.le l1) fun v g2 h2 l2 r2 => ?_
      refine ⟨kvs (K := K) ((((rng m n).drop (k + 1)).filter p).map f), ?_, sH.trans (l1.hh.trans l2.hh), (n - m).toNat - (k + 1), by omega, fun Hw' sm => ⟨hlt, rfl, rfl, sm, Same.refl _, st.over hj⟩⟩
      rw [rng_drop hlt, List.filter_cons, if_pos hp, pk.rv.mp r2]
      rfl
  · have e : k = (n - m).toNat := by omega
    subst e
    refine .inl ⟨Nat.le_refl _, ?_, sH⟩
    rw [List.drop_of_length_le (by rw [rng_len]; exact Nat.le_refl _)]
    rfl
end
section
variable {P : Program} {w : World} {K : PySem.W.Frag} {mg : Str → Option Value} {base : Heap}
/-- the def of such a generator -/
theorem gfq_rng {κ : Type} [iκ : Py K κ] [pk : PyK K κ] {x qual : Str} {params : Arguments} {tg iter : Expr} {bd : List Stmt} {pos : Pos} {scope : Scope} {dvs : List V} {kws : List (Str × V)} {f : Addr} {fd : FuncData} {N ps : List Str} {k : Nat} {A : List (Slot K) → List V → Prop}
    (F : FunD K x qual params [.For tg iter bd [] pos] scope dvs kws f fd) (S : GScope N ps scope) (hcl : ∀ n, cellsFrom n scope.names [] = []) (len : ∀ ss xs, A ss xs → ss.length = ps.length)
    (hb : ∀ (cdv : Value) (Ar : Around) (outer : List PySem.Env) (s : Shared) (H : Hp), Room k (Ar.deeper (envOfC qual scope s.heap.objs.size f cdv)) → ∀ ss xs, A ss xs → ∃ (ti : TA) (tc : TT) (ty : TE) (j : Nat) (m n : Int) (p : Int → Bool) (fk : Int → κ),
      (∀ s1 H1, PI (reX (cxQ P w K mg base N qual scope f cdv Ar outer s H) s1 H1) tg iter (iRng2 ti)) ∧ (∀ s1 H1, GB (reX (cxQ P w K mg base N qual scope f cdv Ar outer s H) s1 H1) bd (tIfY tc (tYd ty))) ∧ (∀ s1 H1, PG (reX (cxQ P w K mg base N qual scope f cdv Ar outer s H) s1 H1) tg (gName j)) ∧
      (∀ x, foldedSetIterable iter (envOfC qual scope s.heap.objs.size f cdv) x = pure x) ∧ EvA ti (ss ++ List.replicate (N.length - ss.length) (Slot.unk : Slot K)) [] [sv m, sv n] ∧ (-(2 ^ 62) ≤ m ∧ m < 2 ^ 62 ∧ -(2 ^ 62) ≤ n ∧ n < 2 ^ 62) ∧ (ss ++ List.replicate (N.length - ss.length) (Slot.unk : Slot K))[j]? = some (.unk : Slot K) ∧
      xs = kvs (K := K) (((rng m n).filter p).map fk) ∧ (∀ d ∈ rng m n, EvT tc ((ss ++ List.replicate (N.length - ss.length) (Slot.unk : Slot K)).set j (sv d)) [] (p d)) ∧ ∀ d ∈ rng m n, p d = true → Ev ty ((ss ++ List.replicate (N.length - ss.length) (Slot.unk : Slot K)).set j (sv d)) [] (fk d)) :
    GFq P w K mg base (k + 1) f fd ps (spQ K A) := by
  obtain ⟨oc, od, dV, kV, doc, pm, an, cdv, ct, osl, rfl, lk, hcd, _, _⟩ := F.ex
  refine gfq_of lk hcd S hcl (fun vs G xs ⟨ss, a, r⟩ => by rw [args_len r]; exact len ss xs a) fun Ar outer s H vs G xs hr ⟨ss, a, r⟩ => ?_
  obtain ⟨ti, tc, ty, j, m, n, p, fk, h1, h2, h3, h4, h5, h6, h7, rfl, h8, h9⟩ := hb cdv Ar outer s H hr ss xs a
  refine ⟨_, _, _, h1, h2, h3, h4, fun Hw sm => ?_⟩
  have s0 : S0 ⟨[], G, Hw⟩ G Hw (L2.start N vs) (ss ++ List.replicate (N.length - ss.length) (Slot.unk : Slot K)) [] := S0.start sm r
  refine h5 s0 fun us g1 h1 l1 r1 => ?_
  have s1 := s0.le l1
  cases r1 with
  | cons q1 r1 => cases r1 with
    | cons q2 r1 => cases r1 with
      | nil =>
        obtain ⟨_, e1, e2⟩ := q1
        obtain ⟨_, e3, e4⟩ := q2
        cases e1; cases e3
        have e2 : _ = V.int m := e2
        have e4 : _ = V.int n := e4
        subst e2 e4
        refine ⟨m, n, rfl, h6, _, turns_rng h7 h8 h9, (n - m).toNat, Nat.zero_le _, rfl, by rw [List.drop_zero], sm, l1.hh, s0.len, s0.sl⟩
variable {fa : List He.Fa} {fn : List He.DefD} {ex : PySem.W.Frag → Bool} {xs : List XD}
theorem Fy.metQ (E : Fy fa fn ex xs K mg) (i j jc : Nat) {C m q : Str} {st : Stmt} {ps : List Str} {k : Nat} {sp : List V → Hp → List V → Prop} (hi : fn[i]? = some ⟨(C, some m), m, q, defArgs st, defBody st, defScope st, [], []⟩) (hj : fa[j]? = some (.meth C m)) (hc : fa[jc]? = some (.cls C))
    (hbi : ∀ (kV doc pm : Value) (an : Option Addr) (cdv ct : Value) (us : List Value), us.length = ps.length → bindArgs (PySem.W.fnOf m q (defArgs st) (defBody st) (defScope st) .none kV doc pm an cdv ct) ⟨us, []⟩ = pure (ps.zip us))
    (hf : ∀ f fd, FunD K m q (defArgs st) (defBody st) (defScope st) [] [] f fd → GFq P w K mg base k f fd ps sp) : MetQ P w K mg base (He.ga K C) m k ps sp := by
  obtain ⟨fd, F⟩ := E.f.d.def_ i hi
  exact ⟨He.cls_ok (E.f.d.fact jc hc), _, fd, He.meth_ok (E.f.d.fact j hj), F.bindsN hbi, hf _ fd F⟩
end
end Lw
/-! a < b < c; how often a sign stands in a text. -/
namespace Lw
open PySem PySem.Spec PyProof.Rows L2
section
variable {K : PySem.W.Frag} {env : Env K} {os : Os} {ta tb tc : TE}
/-- two comparisons of ints, the middle one asked once -/
theorem ev_chain {f f' : Int → Int → Bool} {x y z : Int} (ha : Ev ta env os x) (hb : Ev tb env os y) (hc : Ev tc env os z) : Ev (tChain (rI0 fun i j => .bl (f i j)) (rI0 fun i j => .bl (f' i j)) ta tb tc) env os (f x y && f' y z) := fun {b g h σ Q} s q =>
  ha s fun v g1 h1 l1 r1 => hb (s.le l1) fun w g2 h2 l2 r2 => by
    refine ⟨x, y, r1, r2, f x y, rfl, ?_⟩
    cases e : f x y with
    | false => rw [if_neg (by decide)]; exact q _ _ _ (l1.trans l2) (show V.bl false = V.bl (f x y && f' y z) by rw [e]; rfl)
    | true =>
      rw [if_pos rfl]
      exact hc ((s.le l1).le l2) fun u g3 h3 l3 r3 => ⟨y, z, r2, r3, q _ _ _ ((l1.trans l2).trans l3) (show V.bl (f' y z) = V.bl (f x y && f' y z) by rw [e]; rfl)⟩
theorem EvNW.wS {te : TE} {α : Type} [iα : Py K α] {P : List α → Prop} (h : EvNW te env os P) : EvW te env os (fun xs : SL α => P xs.l) := .mk fun {b g h' σ os2 Q} s q => h.run s fun l vs x g1 h1 p s1 e1 hl r =>
  have le := Le.laid s1.gh hl (o := .lst vs)
  q _ (SL.mk x) (upd g1 l (.lst vs)) _ p (s1.le le) (e1.trans le.gg) ⟨l, vs, rfl, upd_same, pr_mono le.gg r⟩
end
section
variable {K : PySem.W.Frag} {env : Env K} {os : Os}
theorem ewt_andF {t u : TT} {P : Bool → Prop} (h1 : EvTW t env os P) (h2 : EvTW u env os fun c => c = false) : EvTW (tAnd t u) env os (fun c => c = false) := .mk fun {b g h σ os2 Q} s q => h1.run s fun c g1 h' hc s1 e1 => by
  cases c with
  | true => exact h2.run s1 fun c g2 h2' hc s2 e2 => q _ _ _ hc s2 (e1.trans e2)
  | false => exact q _ _ _ rfl s1 e1
end
/-! ### str.count -/
theorem occ_go (x : Str) (c lim : Nat) : ∀ (k a : Nat) (st : Array Nat × Nat), a + k = x.length + 1 → x.length < lim → st.2 ≤ a → st.1.size ≤ a →
    (forIn (List.range' a k) st (StrLaws.occBody x ⟨#[c]⟩ x.length lim)).run.fst.size = st.1.size + (x.cps.toList.drop a).countP (· == c)
  | 0, a, st, h, _, _, _ => by
    have : x.cps.toList.drop a = [] := List.drop_of_length_le (by show x.cps.toList.length ≤ a; rw [Array.length_toList]; have : x.length = x.cps.size := rfl; omega)
    rw [this]; rfl
  | k + 1, a, st, h, hl, h1, h2 => by
    rw [List.range'_succ, List.forIn_cons]
    unfold StrLaws.occBody
    have hs := StrLaws.subAt_one x c a
    have one : (⟨#[c]⟩ : Str).length = 1 := rfl
    rw [one] at hs
    by_cases hc : x.cps.toList[a]? = some c
    · obtain ⟨q1, q2⟩ := hs.mpr hc
      rw [if_pos ⟨⟨⟨by omega, h1⟩, q1⟩, q2⟩]
      have ih := occ_go x c lim k (a + 1) (st.1.push a, a + 1) (by omega) hl (Nat.le_refl _) (by rw [Array.size_push]; omega)
      rw [one]
      refine ih.trans ?_
      obtain ⟨z1, z2⟩ := List.getElem?_eq_some_iff.mp hc
      rw [Array.size_push, List.drop_eq_getElem_cons z1, List.countP_cons, z2]
      simp
      omega
    · rw [if_neg fun z => hc (hs.mp ⟨z.1.2, z.2⟩)]
      have ih := occ_go x c lim k (a + 1) st (by omega) hl (by omega) (by omega)
      refine ih.trans ?_
      by_cases z1 : a < x.cps.toList.length
      · rw [List.drop_eq_getElem_cons z1, List.countP_cons]
        have z3 : ¬ x.cps.toList[a] = c := fun z => hc (by rw [List.getElem?_eq_getElem z1, z])
        rw [if_neg (by simpa using z3)]; rfl
      · rw [List.drop_of_length_le (by omega), List.drop_of_length_le (by omega)]
theorem count_sg (u : List Nat) (c : Nat) : Txt.count (Sg.mk u).s ⟨#[c]⟩ = ((u.countP (· == c) : Nat) : Int) := by
  unfold Txt.count
  rw [StrLaws.occ_eq, Array.length_toList, occ_go _ c _ _ 0 (#[], 0) (by omega) (Nat.lt_succ_self _) (Nat.le_refl _) (Nat.le_refl _)]
  simp
section
variable {K : PySem.W.Frag} {env : Env K} {os : Os} {ta tb : TE} {t : TA}
theorem ev_countG {u : List Nat} {c : Nat} (ha : Ev ta env os (Sg.mk u)) (hb : Ev tb env os (Sg.mk [c])) : Ev (tBM K "str" (fun x xs H Q => ∃ a b, x = .str a ∧ xs = [.str b] ∧ Q (.int (Txt.count a b)) H) ta (tCons tb tNil)) env os ((u.countP (· == c) : Nat) : Int) := fun {b g h σ Q} s q =>
  ha s fun v g1 h1 l1 r1 => by
    cases r1
    refine ⟨rfl, hb (s.le l1) fun w g2 h2 l2 r2 => ?_⟩
    cases r2
    refine ⟨_, _, rfl, rfl, q _ _ _ (l1.trans l2) ?_⟩
    rw [← count_sg]
    rfl
end
end Lw
/-! sorted(xs, key=f) under the invariant: f any callable that keeps the invariant. -/
namespace Lw
open PySem PySem.Spec PyProof.Rows L2 PySem.W
/-- f, called two levels up with a value read as v, keeps the invariant (where the pins fp stand) and gives a key -/
structure KeyFn (X : Cx) (fp : List (Addr × Obj)) (f : Value) (t : L2.St → V → Hp → VK → Prop) : Prop where
  run : ∀ (pins : List (Addr × Obj)) (s : Shared) (σ : L2.St) (H : Hp) (v : V) (u : Value) (Q : VK), (∀ p ∈ fp, p ∈ pins) → Inv X pins σ H s → RelV v u → t σ v H Q →
    wpAny (model X.prog X.w) X.A.in1.in1 (call f [u]) (fun r s' => ∃ k H', Inv X pins σ H' s' ∧ RelV k r ∧ Q k H') (fun _ _ => False) s
/-- the sort by keys: W holds while the keys are made, of the heap and of what is read in it -/
def tSortK (K : Frag) (t : V → Hp → VK → Prop) (xs : List V) (H : Hp) (Q : VK) : Prop := ∃ (ds : List PyData) (W : Hp → Prop), ds.length = xs.length ∧ AllAlike ds ∧ Sortable ds ∧ xs.length ≤ 1000000 ∧ (∀ d ∈ ds, d.depth ≤ 60) ∧ W H ∧
  (∀ (i : Nat) (x : V) (d : PyData), xs[i]? = some x → ds[i]? = some d → ∀ H', W H' → t x H' fun k H2 => W H2 ∧ Dp K H2 k d ∧ ∀ v e, Dp K H' v e → Dp K H2 v e) ∧
  ∀ H' p, W H' → H' p = none → Q (.ref p) (upd H' p (.lst (((xs.zip ds).mergeSort (dataLe false Prod.snd)).map Prod.fst)))
theorem dpAll_to {K : Frag} {H H' : Hp} (h : ∀ v e, Dp K H v e → Dp K H' v e) : ∀ {vs : List V} {ds : List PyData}, DpAll K H vs ds → DpAll K H' vs ds
  | _, _, .nil => .nil
  | _, _, .cons r t => .cons (h _ _ r) (dpAll_to h t)
theorem dpAll_snoc {K : Frag} {H : Hp} {v : V} {d : PyData} (h : Dp K H v d) : ∀ {vs : List V} {ds : List PyData}, DpAll K H vs ds → DpAll K H (vs ++ [v]) (ds ++ [d])
  | _, _, .nil => .cons h .nil
  | _, _, .cons r t => .cons r (dpAll_snoc h t)
section
variable {X : Cx}
theorem each_reads2 {pins : List (Addr × Obj)} {σ : L2.St} {H : Hp} {s : Shared} (I : Inv X pins σ H s) : ∀ {ks : List V} {us : List Value} {ds : List PyData}, DpAll X.K H ks ds → Vals ks us → EachIs (fun (u : Value) (d : PyData) => ∃ as, Reads s.heap u d as) us ds
  | _, _, _, .nil, .nil => .nil
  | _, _, _, .cons d t, .cons r u => .cons (Dp.reads I _ _ _ d r) (each_reads2 I t u)
theorem sort_key {fp pins : List (Addr × Obj)} {σ : L2.St} {H : Hp} {s : Shared} {f : Value} {t : L2.St → V → Hp → VK → Prop} {l : Addr} {xs : List V} {kw : List (Str × Value)} {Q : VK} {E : Value → Shared → Prop} (hu : X.A.units + 66 < cLine) (kf : KeyFn X fp f t) (hfp : ∀ p ∈ fp, p ∈ pins)
    (I : Inv X pins σ H s) (hs : SqL X.K H l xs) (ha1 : argsOk "sorted" ⟨[.ref l], kw⟩) (ha2 : ∀ x, argsOk "list.sort" ⟨[.ref x], kw⟩) (ht : ∀ x, Builtin.«list.sort» ⟨[.ref x], kw⟩ = ksk_tree x f false) (h : tSortK X.K (t σ) xs H Q) :
    wpAny (model X.prog X.w) X.A (call (.builtin "sorted") [.ref l] kw) (fun r s' => ∃ v H', Inv X pins σ H' s' ∧ RelV v r ∧ Q v H') E s := by
  obtain ⟨ds, W, hdl, hal, hsk, hL, hdep, hW, step, q⟩ := h
  obtain ⟨its, rv, hl0, hz⟩ := I.list hs
  have hvl := rv.length
  have hb : (1000000 : Nat) ≤ sizeLine := by rw [sizeLine_eq]; omega
  have hZ : its.length ≤ sizeLine := by omega
  refine sorted_of_sort hl0.isList hZ ha1 ha2 fun E' => ?_
  rw [ht]
  have gt : ∀ {b : Addr}, s.heap.objs.size ≤ b → H b = none ∧ b ≠ X.env.locals ∧ b ∉ X.fs := fun {b} hb => ⟨I.hok.fresh hb, Nat.ne_of_gt (Nat.lt_of_lt_of_le I.lt hb), I.nofs hb⟩
  generalize hca : s.heap.objs.size + 1 = a
  have ca : (copyHeap s.heap its).get? a = some (seqObj "list" its.toArray 0) := by rw [← hca]; exact copyHeap_at s.heap its
  have hsa : s.heap.objs.size ≤ a := by omega
  obtain ⟨e1, ho1⟩ : ∃ e1, ((copyHeap s.heap its).update a (Obj.mapSeq fun _ => (#[] : Array Value))).get? a = some (seqObj "list" #[] e1) := ⟨_, get?_update_seq ca fun _ => #[]⟩
  have hcs : (copyHeap s.heap its).objs.size > a := Heap.lt_size ca
  unfold ksk_tree
  refine wpAny_bind (listItems_at ca rfl ?_)
  refine wpAny_bind (listUpdate_at ca rfl ?_ (by rw [List.size_toArray]; exact hZ) (Nat.zero_le _))
  refine wpAny_bind (seqEpoch_at ho1 rfl ?_)
  refine wpAny_bind (wpAny_newTuple ?_ (by show its.length ≤ _; exact hZ))
  refine wpAny_bind (wpAny_newList ?_ (Nat.zero_le _))
  refine wpAny_holding ?_
  generalize hck : (((copyHeap s.heap its).update a (Obj.mapSeq fun _ => (#[] : Array Value))).push (seqObj "tuple" its.toArray 0)).objs.size = kS
  have hkS : kS = (copyHeap s.heap its).objs.size + 1 := by rw [← hck, size_push', Heap.size_update]
  have hka : kS ≠ a := by omega
  have hsk' : s.heap.objs.size ≤ kS := by omega
  have old : ∀ b o, s.heap.get? b = some o → ((((copyHeap s.heap its).update a (Obj.mapSeq fun _ => (#[] : Array Value))).push (seqObj "tuple" its.toArray 0)).push (seqObj "list" #[] 0)).get? b = some o := fun b o e =>
    sortingHeap_old (Nat.ne_of_lt (Nat.lt_of_lt_of_le (Heap.lt_size e) hsa)) (copyHeap_old e)
  have I0 := I.kept (t' := s.toks) old
  have atA : ((((copyHeap s.heap its).update a (Obj.mapSeq fun _ => (#[] : Array Value))).push (seqObj "tuple" its.toArray 0)).push (seqObj "list" #[] 0)).get? a = some (seqObj "list" #[] e1) := Heap.get?_push_of_some _ (Heap.get?_push_of_some _ ho1)
  have atK : ((((copyHeap s.heap its).update a (Obj.mapSeq fun _ => (#[] : Array Value))).push (seqObj "tuple" its.toArray 0)).push (seqObj "list" #[] 0)).get? kS = some (seqObj "list" #[] 0) := by rw [← hck]; exact Heap.get?_push_size _ rfl
  have I1 : Inv X (pins ++ [(a, seqObj "list" #[] e1), (kS, seqObj "list" #[] 0)]) σ H _ := I0.pins_of fun p hp => by
    rcases List.mem_append.mp hp with z | z
    · exact I0.pin p (List.mem_append_right _ z)
    · rcases List.mem_cons.mp z with z | z
      · rw [z]; exact ⟨atA, (gt hsa).1, (gt hsa).2.1, (gt hsa).2.2, fun v z => nomatch z⟩
      · rw [List.mem_singleton.mp z]; exact ⟨atK, (gt hsk').1, (gt hsk').2.1, (gt hsk').2.2, fun v z => nomatch z⟩
  have noC : ∀ {b : Addr}, s.heap.objs.size ≤ b → ∀ y c, X.env.cells.lookup y = some c → c ≠ b := fun {b} hb y c e z => by
    obtain ⟨w, o, e2, _⟩ := I.cell y c e
    exact absurd (Nat.lt_of_lt_of_le (Heap.lt_size e2) hb) (by rw [z]; exact Nat.lt_irrefl _)
  have noP : ∀ {b : Addr}, s.heap.objs.size ≤ b → ∀ p ∈ X.pn ++ pins, p.1 ≠ b := fun {b} hb p hp z =>
    absurd (Nat.lt_of_lt_of_le (Heap.lt_size (I.pin p hp).1) hb) (by rw [z]; exact Nat.lt_irrefl _)
  unfold ksk_rest
  refine wpAny_bind (wpAny_rule ?_)
  first
    | rw [List.forIn_toArray]
    | (rw [← Array.forIn_toList]; simp only [List.toList_toArray])
    | rw [← Array.forIn_toList]
  refine wpAny_bind (ksk_fold (fun i s' => ∃ (H' : Hp) (kA : Array Value) (e : Nat) (ks : List V), Inv X (pins ++ [(a, seqObj "list" #[] e1), (kS, seqObj "list" kA e)]) σ H' s' ∧ W H' ∧ Vals ks kA.toList ∧ DpAll X.K H' ks (ds.take i)) its 0 _
    ⟨H, #[], 0, [], I1, hW, .nil, by rw [List.take_zero]; exact .nil⟩ ?step ?done)
  case step =>
    rintro j u s' hj ⟨H', kA, e, ks, I2, w2, vk, dk⟩
    simp only [Nat.zero_add] at dk ⊢
    obtain ⟨x, hx, rx⟩ : ∃ x, xs[j]? = some x ∧ RelV x u := by
      cases qx : xs[j]? with
      | none => rw [Vals.none_of rv qx] at hj; cases hj
      | some x =>
        obtain ⟨u', e1, e2⟩ := Vals.get rv qx
        rw [hj] at e1
        cases e1
        exact ⟨x, rfl, e2⟩
    have hjl : j < xs.length := (List.getElem?_eq_some_iff.mp hx).1
    obtain ⟨d, hd⟩ : ∃ d, ds[j]? = some d := ⟨_, List.getElem?_eq_getElem (by omega)⟩
    refine wpAny_bind (wpAny_attempt (wpAny_mono (kf.run _ s' σ H' x u _ (fun p hp => List.mem_append_left _ (hfp p hp)) I2 rx (step j x d hx hd H' w2)) (fun r s3 he => ?_) fun _ _ hF => hF.elim))
    obtain ⟨k, H3, I3, rk, w3, dk3, dpk⟩ := he
    try dsimp only
    have p3 := I3.pin (kS, seqObj "list" kA e) (List.mem_append_right _ (List.mem_append_right _ (.tail _ (.head _))))
    have hkl : kA.size ≤ its.length := by
      have h1 := dpAll_len dk
      have h2 := vk.length
      have h3 := List.length_take_le j ds
      have h4 : kA.toList.length = kA.size := Array.length_toList
      omega
    refine wpAny_bind (listUpdate_at p3.1 rfl ?_ (Nat.le_trans hkl hZ) (Nat.le_trans (Nat.le_of_eq (Array.size_push ..)) (Nat.succ_le_succ (Nat.le_trans hkl hZ))))
    have s1 := Heap.SameBut.update s3.heap kS (Obj.mapSeq (·.push r))
    obtain ⟨c2, hc2⟩ : ∃ c2, (s3.heap.update kS (Obj.mapSeq (·.push r))).get? kS = some (seqObj "list" (kA.push r) c2) := ⟨_, get?_update_seq p3.1 (·.push r)⟩
    have kb : ∀ b o, b ≠ kS → s3.heap.get? b = some o → (s3.heap.update kS (Obj.mapSeq (·.push r))).get? b = some o := fun b o hb e => (s1.2 b hb).trans e
    have nk : ∀ b o, H3 b = some o → b ≠ kS := fun b o e z => by rw [z, p3.2.1] at e; cases e
    have I4 : Inv X (pins ++ [(a, seqObj "list" #[] e1)]) σ H3 s3 := I3.pins_of fun p hp => by
      rcases List.mem_append.mp hp with z | z
      · exact I3.pin p (List.mem_append_right _ (List.mem_append_left _ z))
      · rw [List.mem_singleton.mp z]; exact I3.pin _ (List.mem_append_right _ (List.mem_append_right _ (.head _)))
    have I5 : Inv X (pins ++ [(a, seqObj "list" #[] e1)]) σ H3 { s3 with heap := s3.heap.update kS (Obj.mapSeq (·.push r)) } := by
      refine I4.turned (t' := s3.toks) kb p3.2.1 p3.2.2.1 (.inr (Nat.le_trans I.sz hsk')) (noC hsk') fun p hp => ?_
      rw [← List.append_assoc] at hp
      rcases List.mem_append.mp hp with z | z
      · exact noP hsk' p z
      · rw [List.mem_singleton.mp z]; exact Ne.symm hka
    refine wpAny_pure ⟨rfl, H3, kA.push r, c2, ks ++ [k], I5.pins_of fun p hp => ?_, w3, ?_, ?_⟩
    · rw [← List.singleton_append, ← List.append_assoc] at hp
      rcases List.mem_append.mp hp with z | z
      · exact I5.pin p (List.mem_append_right _ z)
      · rw [List.mem_singleton.mp z]; exact ⟨hc2, p3.2.1, p3.2.2.1, p3.2.2.2.1, fun v z => nomatch z⟩
    · rw [Array.toList_push]; exact vk.append (.cons rk .nil)
    · rw [List.take_add_one, hd]; exact dpAll_snoc dk3 (dpAll_to dpk dk)
  case done =>
    rintro s' ⟨H', kA, e, ks, I2, w2, vk, dk⟩
    rw [List.take_of_length_le (by omega)] at dk
    have pA := I2.pin (a, seqObj "list" #[] e1) (List.mem_append_right _ (List.mem_append_right _ (.head _)))
    have pK := I2.pin (kS, seqObj "list" kA e) (List.mem_append_right _ (List.mem_append_right _ (.tail _ (.head _))))
    have hk' := each_reads2 I2 dk vk
    have hsz : kA.size = its.length := by
      have h1 := dpAll_len dk
      have h2 := vk.length
      have h4 : kA.toList.length = kA.size := Array.length_toList
      omega
    have Ip : Inv X pins σ H' s' := I2.unpinned
    refine wpAny_bind (listItems_at pK.1 rfl ?_)
    have kp : KeepsBut a (hideAll s'.heap [kS]) s'.heap := fun b o _ e => of_hideAll [kS] e
    refine keyH_end (κ := dataKind s'.heap ds) (h₁ := hideAll s'.heap [kS]) kp (hideAll_none [kS] (by simp)) pK.1 pA.1 hka (SortsAt.data (s := s') hk' hal hsk fun d hd => ?_) hsz hZ fun h3 tk3 c k3 n3 => ⟨rfl, ?_⟩
    · have := hdep d hd
      have e2 : X.A.in1.in1.units = X.A.units + 2 := rfl
      omega
    have ko : KeyedOut false ds its (sortVals (dataKind s'.heap ds) false kA.toList its) := ⟨s'.heap, kA.toList, hal, rfl, hk'⟩
    have hzl : (xs.zip ds).map Prod.snd = ds := List.map_snd_zip (by omega)
    have he := keyedOut_each (k := Prod.snd) (bs := xs.zip ds) (by rw [hzl]; exact ko) (each_vals rv hdl.symm)
    have hv := vals_each he
    generalize sortVals (dataKind s'.heap ds) false kA.toList its = out at n3 hv
    have hlen : (((xs.zip ds).mergeSort (dataLe false Prod.snd)).map Prod.fst).length ≤ sizeLine := by
      rw [List.length_map, List.length_mergeSort, List.length_zip]; omega
    have kk : ∀ b o, b ≠ a → b ≠ kS → s'.heap.get? b = some o → h3.get? b = some o := fun b o h1 h2 e => k3 b o h1 (hideAll_get [kS] e (by simpa using h2))
    have nA : ∀ b o, H' b = some o → b ≠ a := fun b o e z => by rw [z, pA.2.1] at e; cases e
    have nK : ∀ b o, H' b = some o → b ≠ kS := fun b o e z => by rw [z, pK.2.1] at e; cases e
    refine ⟨.ref a, upd H' a (.lst (((xs.zip ds).mergeSort (dataLe false Prod.snd)).map Prod.fst)), ?_, rfl, q H' a w2 pA.2.1⟩
    refine Ip.call' (ch := [a, kS]) rfl ⟨fun b o e n f z => ?_, fun b o e n f z => ?_, fun b o e n z => ?_, fun b o e z => ?_, fun b xs e => ?_, fun b o u e => ?_, fun b ps e => ?_⟩ (fun b o e => ?_) Ip.bare fun b hb => ?_
    · exact kk b o (fun y => z (by simp [y])) (fun y => z (by simp [y])) e
    · exact ⟨o.slots, kk b o (fun y => z (by simp [y])) (fun y => z (by simp [y])) e⟩
    · rw [upd_ne fun y => z (by simp [y])]; exact n
    · exact ⟨o, kk b o (fun y => z (by simp [y])) (fun y => z (by simp [y])) e⟩
    · rw [upd_ne (nA b _ e)]; exact e
    · rw [upd_ne (nA b _ e)]; exact e
    · rw [upd_ne (nA b _ e)]; exact ⟨#[], by rw [e]; simp⟩
    · by_cases hb : b = a
      · rw [hb, upd_same] at e
        cases e
        rw [hb]
        exact ⟨hlen, out, c, hv, n3⟩
      · rw [upd_ne hb] at e
        refine (Ip.hok b o e).stay (fun d v hd y => ?_) (fun d y => by rw [upd_ne (nA d _ y)]; exact y) fun d ys y => by rw [upd_ne (nA d _ y)]; exact y
        rcases hd with z | z
        · rw [z] at y ⊢; exact kk b v hb (nK b _ e) y
        · exact kk d v (nA d _ z) (nK d _ z) y
    · have hb2 : s.heap.objs.size ≤ b ∧ (b = a ∨ b = kS) := by
        rcases List.mem_cons.mp hb with z | z
        · rw [z]; exact ⟨hsa, .inl rfl⟩
        · rw [List.mem_singleton.mp z]; exact ⟨hsk', .inr rfl⟩
      exact ⟨.inr (Nat.le_trans I.sz hb2.1), (gt hb2.1).2.1, noC hb2.1, noP hb2.1⟩
end
end Lw
/-! Keys: a def's name, a lambda with one parameter. -/
namespace Lw
open PySem PySem.Spec PyProof.Rows L2 PySem.W LamX NdefX
theorem Room.in2 {k : Nat} {A : Around} (r : Room (k + 1) A) : Room k A.in1.in1 :=
  ⟨r.hd, by have := r.dp; show A.depth + 3 * k + 5 < _; omega, by have := r.un; show A.units + 1 + 1 + 16 * k + 200 < _; omega⟩
section
variable {X : Cx} {k : Nat}
/-- a def as the key -/
theorem kf_def {f : Addr} {fd : FuncData} {x : Str} {sp : Sp} (F : FnOk X.prog X.w X.K X.mg X.base CX0 k f fd [x] sp) (hr : Room (k + 1) X.A) (hb : Binds X.K fd [x] []) : KeyFn X [] (.ref f) (fun _ v H Q => sp [v] H Q E0) := by
  refine ⟨fun pins s σ H v u Q _ I r h => ?_⟩
  refine wpAny_call (codeAny_mono (F.run X.A.in1.in1 X.stack s H ⟨[u], []⟩ [u] [v] Q E0 (Room.in2 hr) I.env0.in1.in1 (hb s [u] I.kIn rfl) (.cons r .nil) h) fun r s' hq => ?_)
  cases r with
  | error e => exact (show False from hq).elim
  | ok fl =>
    cases fl with
    | ret u => exact I.after hq
    | next => exact False.elim hq
    | brk => exact False.elim hq
    | cont => exact False.elim hq
def tSort1 (K : Frag) (t : L2.St → V → Hp → VK → Prop) (te : TE) : TE := fun σ H Q => tCons te tNil σ H fun vs H1 => ∃ l xs, vs = [.ref l] ∧ SqL K H1 l xs ∧ tSortK K (t σ) xs H1 Q
/-- sorted(e, key=x), x a def -/
theorem pe_sortF {x : Str} {sp : Sp} {y : Str} {e : Expr} {te : TE} {p p2 kpos pos : Pos} (C : Cal X.prog X.w X.K X.mg X.base x k [y] sp) (hr : Room (k + 1) X.A) (hg : Gl X x) (hgs : Gl X "sorted") (hms : X.mg "sorted" = none) (ha : PE X e te) (hdb : (x == ("__debug__" : Str)) = false := by decide)
    (hs : starEach [e] X.env = [(false, eval e X.env)] := by rfl) (hbs : bootBuiltins "sorted" = some (.builtin "sorted") := by decide +kernel) : PE X (.Call (.Name "sorted" p) [e] [⟨some "key", .Name x p2, kpos⟩] pos) (tSort1 X.K (fun _ v H Q => sp [v] H Q E0) te) := by
  obtain ⟨f, fd, gm, kp, bi, ok⟩ := C
  refine ⟨fun pins s σ H Q I h => ?_⟩
  refine wpAny_Call_Name_kw (ld_blt I hgs hms hbs ?_ (by decide) (by decide))
  refine callWith_kw (thn ((pa_cons ha pa_nil hs).run pos pins s σ H _ I h) fun us s1 ⟨vs, H1, I1, r1, q1⟩ => ?_) (by rw [hs]; rfl) (by rw [hs]; rfl)
  obtain ⟨l, xs, rfl, hl, ht⟩ := q1
  obtain rfl : us = [.ref l] := Vals.ref1 r1
  refine thn ((pk_cons (nm := some "key") (kpos := kpos) (pe_glob (pos := p2) (v := .ref f) hg gm rfl hdb) pk_nil).run pos pins s1 σ H1 (fun vs H2 => vs = [.ref f] ∧ H2 = H1) I1 ⟨rfl, rfl⟩) fun ws s2 ⟨zs, H2, I2, r2, q2⟩ => ?_
  obtain ⟨rfl, rfl⟩ := q2
  obtain rfl : ws = [.ref f] := Vals.ref1 r2
  exact sort_key (by have := hr.un; omega) (kf_def ok hr bi) (fun p hp => by simp at hp) I2 hl (ksk_s1 _ _) (fun _ => ksk_l1 _ _) (fun _ => ksk_t1 _ _) ht
end
/-! ### a lambda with one parameter -/
/-- the table ps holds code objects of the name q, all known to g -/
def TabT (g : Hp) (q : Str) (ps : Array Value) : Prop := TriplesOk ps.toList ∧ ∀ (pos : Pos) (cv : Value), codeAmong pos ps.toList = some cv → ∃ c, cv = .ref c ∧ g c = some (CodeO c q)
abbrev lamO (q : Str) (params : Arguments) (body : Expr) (scope : Scope) (cl : List (Str × Addr)) (pm ctv : Value) (c' : Addr) : Obj := kla_obj "<lambda>" q params body scope cl pm c' ctv
abbrev lamF (q : Str) (params : Arguments) (scope : Scope) (cl : List (Str × Addr)) (c' : Addr) : NF := ⟨"<lambda>", q, params, [], scope, cl, c'⟩
section
variable {X : Cx} {k : Nat} {pins : List (Addr × Obj)} {σ : L2.St} {H g : Hp} {s : Shared}
theorem lam_make3 {c P : Addr} {params : Arguments} {body : Expr} {scope : Scope} {pos : Pos} {ps : Array Value} {E : Value → Shared → Prop} {Q : Value → Shared → Prop} (I : Inv X pins σ H s) (TB : TabB X.base X.mg c P) (hcode : X.env.code = .ref c) (gh : Same g H) (hP : H P = some (.tbl ps)) (hT : TabT g (X.env.qual ++ "<lambda>") ps)
    (hdef : defaultsOf params X.env = ([], [])) (hfree : ∀ y ∈ scope.names, y.2 = .free → ∃ c, X.env.cells.lookup y.1 = some c)
    (h : ∀ (f c' : Addr) (pm ctv : Value) (g1 H1 : Hp) (s' : Shared), Inv X pins σ H1 s' → ((g1 = g ∧ H1 = H) ∨ (H c' = none ∧ g1 = upd g c' (CodeO c' (X.env.qual ++ "<lambda>")) ∧ ∃ more, TabT g1 (X.env.qual ++ "<lambda>") (ps ++ more) ∧ H1 = upd (upd H P (.tbl (ps ++ more))) c' (CodeO c' (X.env.qual ++ "<lambda>")))) →
      g1 c' = some (CodeO c' (X.env.qual ++ "<lambda>")) → H1 c' = some (CodeO c' (X.env.qual ++ "<lambda>")) →
      s'.heap.get? f = some (lamO (X.env.qual ++ "<lambda>") params body scope (cloFrom X.env.cells scope.names []) pm ctv c') → H1 f = none → f ∉ frs X.stack → s.heap.objs.size ≤ f → Q (.ref f) s') :
    wpAny (model X.prog X.w) X.A (eval (.Lambda params body scope pos) X.env) Q E s := by
  obtain ⟨ht, ha⟩ := hT
  refine kla_eval hdef ?_
  have bP : s.heap.BuiltinsAt X.mg P := TB.bm.keeps I.bk
  have hP' : s.heap.get? P = some { cls := .none, data := .fields ps } := I.hok P _ hP
  have nofr : ∀ f, s.heap.objs.size ≤ f → f ∉ frs X.stack := fun f hf z => by
    rcases List.mem_cons.mp (I.stkSub _ z) with e | e
    · have h1 := I.lt
      rw [← e] at h1
      exact Nat.lt_irrefl _ (Nat.lt_of_lt_of_le h1 hf)
    · exact I.nofs hf e
  cases hc : codeAmong pos ps.toList with
  | none =>
    refine kla_makeFunction (mg := X.mg) (c := c) (P := P) (ps := ps) (closure_ok hfree) I.ok.glob (I.mod.glob.keeps I.bk) hcode (TB.code.keeps I.bk) hP' ht hc TB.gP bP fun c' ctv h' tk hx hge hlt hrec htb => ?_
    obtain ⟨c2, oc, vs, t, e2, hoc, hd, hv⟩ := hrec
    cases e2
    have hsz : s.heap.objs.size ≤ h'.objs.size := Nat.le_trans hge (Nat.le_of_lt hlt)
    have nC : H c' = none := I.hok.fresh hge
    have I1 := inv_table (t' := tk) (more := #[rawInt pos.line, rawInt pos.col, .ref c']) (h' := h'.push (kla_obj "<lambda>" (X.env.qual ++ "<lambda>") params body scope (cloFrom X.env.cells scope.names []) ((X.mg "__name__").getD .none) c' ctv)) I hP
      (fun b o hb e => Heap.get?_push_of_some _ (hx b o hb e)) (Heap.get?_push_of_some _ htb) hge ⟨oc, vs, t, Heap.get?_push_of_some _ hoc, hd, hv⟩
    have eL : (ps ++ #[rawInt pos.line, rawInt pos.col, .ref c']).toList = ps.toList ++ [rawInt pos.line, rawInt pos.col, .ref c'] := by simp
    refine h h'.objs.size c' ((X.mg "__name__").getD .none) ctv _ _ _ I1 (.inr ⟨nC, rfl, _, ⟨by rw [eL]; exact PySem.TriplesOk_snoc _ _ _ _ ht, fun p' cv hcv => ?_⟩, rfl⟩) upd_same upd_same (Heap.get?_push_size _ rfl) ?_ (nofr _ hsz) hsz
    · rw [eL] at hcv
      rcases LamX.among_app _ ht hcv with z | z
      · obtain ⟨c0, e1, e2⟩ := ha p' cv z
        exact ⟨c0, e1, by rw [upd_ne (ne_of_none (gh _ _ e2) nC)]; exact e2⟩
      · exact ⟨c', z, upd_same⟩
    · have n1 : h'.objs.size ≠ c' := Nat.ne_of_gt hlt
      have n2 : h'.objs.size ≠ P := Nat.ne_of_gt (Nat.lt_of_lt_of_le (Heap.lt_size hP') hsz)
      rw [upd_ne n1, upd_ne n2]
      exact I.hok.fresh hsz
  | some cv =>
    obtain ⟨c', e, hco⟩ := ha pos cv hc
    subst e
    refine kla_makeFunctionHit (mg := X.mg) (c := c) (P := P) (ps := ps) (closure_ok hfree) I.ok.glob (I.mod.glob.keeps I.bk) hcode (TB.code.keeps I.bk) hP' ht hc bP fun ctv h' tk hx hsz => ?_
    have I1 : Inv X pins σ H { s with heap := h'.push (kla_obj "<lambda>" (X.env.qual ++ "<lambda>") params body scope (cloFrom X.env.cells scope.names []) ((X.mg "__name__").getD .none) c' ctv), toks := tk } := I.kept fun b o e => Heap.get?_push_of_some _ (hx b o e)
    exact h h'.objs.size c' ((X.mg "__name__").getD .none) ctv g H _ I1 (.inl ⟨rfl, rfl⟩) hco (gh _ _ hco) (Heap.get?_push_size _ rfl) (I.hok.fresh hsz) (nofr _ hsz) hsz
/-- where the captured names stand among the maker's -/
structure Cap (X : Cx) (fr : List Str) (ix : List Nat) : Prop where
  len : ix.length = fr.length
  at_ : ∀ (j : Nat) (y : Str), fr[j]? = some y → ∃ i, ix[j]? = some i ∧ X.N[i]? = some y
  vis : ∀ y ∈ fr, X.env.scope.names.lookup y = some .cell ∨ X.env.scope.names.lookup y = some .free
def capB (N : List Str) (sc : Scope) (fr : List Str) (ix : List Nat) : Bool := decide (ix.length = fr.length) && (fr.zip ix).all fun p => decide (N[p.2]? = some p.1) && (decide (sc.names.lookup p.1 = some .cell) || decide (sc.names.lookup p.1 = some .free))
theorem cap_by {N : List Str} {sc : Scope} {fr : List Str} {ix : List Nat} (hN : X.N = N) (hs : X.env.scope = sc) (h : capB N sc fr ix = true) : Cap X fr ix := by
  subst hN hs
  unfold capB at h
  simp only [Bool.and_eq_true, decide_eq_true_eq, List.all_eq_true, Bool.or_eq_true] at h
  obtain ⟨h1, h2⟩ := h
  refine ⟨h1, fun j y hj => ?_, fun y hy => ?_⟩
  · have hl := (List.getElem?_eq_some_iff.mp hj).1
    have hi : ix[j]? = some (ix[j]'(by omega)) := List.getElem?_eq_getElem _
    have hz : (y, ix[j]'(by omega)) ∈ fr.zip ix := List.mem_of_getElem? (i := j) (by rw [List.getElem?_zip_eq_some]; exact ⟨hj, hi⟩)
    exact ⟨_, hi, (h2 _ hz).1⟩
  · obtain ⟨j, hj⟩ := List.mem_iff_getElem?.mp hy
    have hl := (List.getElem?_eq_some_iff.mp hj).1
    have hi : ix[j]? = some (ix[j]'(by omega)) := List.getElem?_eq_getElem _
    have hz : (y, ix[j]'(by omega)) ∈ fr.zip ix := List.mem_of_getElem? (i := j) (by rw [List.getElem?_zip_eq_some]; exact ⟨hj, hi⟩)
    exact (h2 _ hz).2
abbrev capV (σ : L2.St) (ix : List Nat) : List (Option V) := ix.map fun i => σ[i]?.join
theorem kf_lam {f c' : Addr} {q x : Str} {N fr : List Str} {ix : List Nat} {params : Arguments} {body : Expr} {scope : Scope} {pm ctv : Value} {tb : TE} (S : NScope N [x] fr scope) (C : Cap X fr ix) (hr : Room (k + 2) X.A)
    (hbind : ∀ (cl : List (Str × Addr)) (u : Value), bindArgs (kla_fn "<lambda>" q params body scope cl pm (.ref c') ctv) ⟨[u], []⟩ = pure [(x, u)])
    (hbody : ∀ (A : Around) (outer : List PySem.Env) (s : Shared) (H : Hp), Room k (A.deeper (envF (lamF q params scope (cloFrom X.env.cells scope.names []) c') f s.heap.objs.size)) → PE (ncx CX0 X.prog X.w X.K X.mg X.base N (lamF q params scope (cloFrom X.env.cells scope.names []) c') f A outer s H E0) body tb) :
    KeyFn X [(f, lamO q params body scope (cloFrom X.env.cells scope.names []) pm ctv c')] (.ref f) (fun σ v H Q => H c' = some (CodeO c' q) ∧ tb (startF N [v] (capV σ ix)) H Q) := by
  refine ⟨fun pins s σ H v u Q hp I r h => ?_⟩
  obtain ⟨hc, ht⟩ := h
  have hp1 : (f, lamO q params body scope (cloFrom X.env.cells scope.names []) pm ctv c') ∈ X.pn ++ pins := List.mem_append_right _ (hp _ List.mem_cons_self)
  have of1 := (I.pin _ hp1).1
  obtain ⟨⟨oc, vs, t, hoc, hdc, hvc⟩, _, _⟩ := I.hok c' _ hc
  have inFr : ∀ y, scope.names.lookup y = some .free → y ∈ fr := fun y hl => S.free _ (PySem.mem_of_lookup hl) rfl
  have hfree : ∀ y ∈ scope.names, y.2 = .free → ∃ c, X.env.cells.lookup y.1 = some c := fun y hy e => I.ok.has _ (C.vis _ (S.free y hy e))
  have cm : ∀ {y c}, (cloFrom X.env.cells scope.names []).lookup y = some c → X.env.cells.lookup y = some c := fun {y c} e => by
    rcases cloFrom_mem (PySem.mem_of_lookup e) with hm | ⟨h1, h2⟩
    · cases hm
    · obtain ⟨c1, hc⟩ := hfree _ h1 rfl
      have hc : X.env.cells.lookup y = some c1 := hc
      have e2 : c = c1 := by
        rw [h2, hc] <;> rfl
      rw [e2]
      exact hc
  have look : ∀ {y}, scope.names.lookup y = some .free → ∃ c, (cloFrom X.env.cells scope.names []).lookup y = some c := fun {y} hl => by
    have hy : (y, NameKind.free) ∈ scope.names := PySem.mem_of_lookup hl
    exact mem_lookup (cloFrom_has (cells := X.env.cells) (acc := []) hy)
  have CA : CellsAt (cloFrom X.env.cells scope.names []) fr (capV σ ix) s.heap H := by
    refine ⟨by rw [List.length_map]; exact C.len, fun y c e => ⟨I.freeC y c (cm e), I.cell y c (cm e)⟩, fun y z c e1 e2 => I.ok.inj y z c (cm e1) (cm e2), fun j y hj => ?_⟩
    obtain ⟨c, hc2⟩ := look (S.frk y (List.mem_of_getElem? hj))
    refine ⟨c, hc2, fun v hv => ?_⟩
    obtain ⟨i, hi, hN⟩ := C.at_ j y hj
    rw [List.getElem?_map, hi] at hv
    have hv : σ[i]?.join = some v := Option.some.inj hv
    have hv2 : σ[i]? = some (some v) := by
      cases q : σ[i]? with
      | none => rw [q] at hv; cases hv
      | some o => rw [q] at hv; exact congrArg some hv
    obtain ⟨m, hn, hl⟩ := I.loc
    have kv := C.vis y (List.mem_of_getElem? hj)
    have hvis : Vis X.env.scope y := kv.elim (fun z => .inr (.inl z)) fun z => .inr (.inr z)
    obtain ⟨w', rw', q⟩ := hl i y v hN hv2 hvis
    refine ⟨w', rw', ?_⟩
    rcases q with ⟨k', _⟩ | ⟨_, c3, e', z⟩
    · have k' : X.env.scope.names.lookup y = some .local := k'
      rcases kv with k2 | k2 <;> rw [k2] at k' <;> cases k'
    · rw [cm hc2] at e'
      cases e'
      exact z
  have rc : codeAny (model X.prog X.w) X.A.in1.in1 (.call (.ref f) ⟨[u], []⟩) (CR CX0 X.stack X.prog X.w H s Q E0) s := by
    have hr2 : Room (k + 1) X.A.in1.in1 := Room.in2 hr
    refine kla_callFunE hr2.depth of1 rfl S.co S.gen rfl ⟨c', oc, vs, t, rfl, hoc, hdc, hvc⟩ ?_
    rw [hbind]
    refine wpAny_pure (wpAny_newFunctionEnv (fun y hy => S.nocell y hy) (fun y hy => by
      rw [List.mem_singleton.mp hy]; exact S.par x (by simp)) (fun h₁ hns hsb => ⟨I.nolimit.fresh _ hsb, ?_⟩) S.kind)
    have kp : ∀ b o, s.heap.get? b = some o → h₁.get? b = some o := fun b o e => hsb.extBut b o (Nat.ne_of_lt (Heap.lt_size e)) (Heap.get?_push_of_some _ e)
    have J : Inv (ncx CX0 X.prog X.w X.K X.mg X.base N (lamF q params scope (cloFrom X.env.cells scope.names []) c') f X.A.in1.in1 X.stack s H E0) [] (startF N [v] (capV σ ix)) H { s with heap := h₁, toks := s.toks + [(x, u)].length } :=
      inv_startN (us := [u]) (ps := [x]) S hr2.hd I.env0.in1.in1 rfl (.cons r .nil) CA hns kp
    refine kla_codeExpr (wpAny_mono ((hbody _ _ s H (hr2.deeper _)).run [] _ _ H Q J ht) (fun v s' hq => ?_) fun e s' hq => hq)
    obtain ⟨w', H', J', rv, q⟩ := hq
    exact ⟨w', H', J'.os, J'.bare, J'.base, J'.hok, rv, q⟩
  refine wpAny_call (codeAny_mono rc fun r s' hq => ?_)
  cases r with
  | error e => exact (show False from hq).elim
  | ok fl =>
    cases fl with
    | ret u => exact I.after hq
    | next => exact False.elim hq
    | brk => exact False.elim hq
    | cont => exact False.elim hq
/-- the lambda made, the sort by it -/
def tSortL (K : Frag) (P : Addr) (q : Str) (N : List Str) (ix : List Nat) (tb te : TE) : TE := fun σ H Q => tCons te tNil σ H fun vs H1 => ∃ (l : Addr) (xs : List V) (ps : Array Value) (g : Hp), vs = [.ref l] ∧ Same g H1 ∧ H1 P = some (.tbl ps) ∧ TabT g q ps ∧
  ∀ (c' : Addr) (g2 H2 : Hp), ((g2 = g ∧ H2 = H1) ∨ (H1 c' = none ∧ g2 = upd g c' (CodeO c' q) ∧ ∃ more, TabT g2 q (ps ++ more) ∧ H2 = upd (upd H1 P (.tbl (ps ++ more))) c' (CodeO c' q))) → g2 c' = some (CodeO c' q) → H2 c' = some (CodeO c' q) →
    SqL K H2 l xs ∧ tSortK K (fun v H Q => H c' = some (CodeO c' q) ∧ tb (startF N [v] (capV σ ix)) H Q) xs H2 Q
/-- sorted(e, key=lambda x: body) -/
theorem pe_sortL {c P : Addr} {x : Str} {N fr : List Str} {ix : List Nat} {params : Arguments} {body : Expr} {scope : Scope} {tb te : TE} {e : Expr} {p lpos kpos pos : Pos} (TB : TabB X.base X.mg c P) (hcode : X.env.code = .ref c) (S : NScope N [x] fr scope) (C : Cap X fr ix) (hr : Room (k + 2) X.A)
    (hgs : Gl X "sorted") (hms : X.mg "sorted" = none) (ha : PE X e te) (hdef : defaultsOf params X.env = ([], []))
    (hbind : ∀ (cl : List (Str × Addr)) (pm cv ctv u : Value), bindArgs (kla_fn "<lambda>" (X.env.qual ++ "<lambda>") params body scope cl pm cv ctv) ⟨[u], []⟩ = pure [(x, u)])
    (hbody : ∀ (A : Around) (outer : List PySem.Env) (s : Shared) (H : Hp) (f c' : Addr), Room k (A.deeper (envF (lamF (X.env.qual ++ "<lambda>") params scope (cloFrom X.env.cells scope.names []) c') f s.heap.objs.size)) → PE (ncx CX0 X.prog X.w X.K X.mg X.base N (lamF (X.env.qual ++ "<lambda>") params scope (cloFrom X.env.cells scope.names []) c') f A outer s H E0) body tb)
    (hs : starEach [e] X.env = [(false, eval e X.env)] := by rfl) (hbs : bootBuiltins "sorted" = some (.builtin "sorted") := by decide +kernel) :
    PE X (.Call (.Name "sorted" p) [e] [⟨some "key", .Lambda params body scope lpos, kpos⟩] pos) (tSortL X.K P (X.env.qual ++ "<lambda>") N ix tb te) := by
  refine ⟨fun pins s σ H Q I h => ?_⟩
  refine wpAny_Call_Name_kw (ld_blt I hgs hms hbs ?_ (by decide) (by decide))
  refine callWith_kw (thn ((pa_cons ha pa_nil hs).run pos pins s σ H _ I h) fun us s1 ⟨vs, H1, I1, r1, q1⟩ => ?_) (by rw [hs]; rfl) (by rw [hs]; rfl)
  obtain ⟨l, xs, ps, g, rfl, gh, hP, hT, q1⟩ := q1
  obtain rfl : us = [.ref l] := Vals.ref1 r1
  have hfree : ∀ y ∈ scope.names, y.2 = .free → ∃ c, X.env.cells.lookup y.1 = some c := fun y hy e => I1.ok.has _ (C.vis _ (S.free y hy e))
  refine wpAny_evalAll_cons (wpAny_bind (lam_make3 I1 TB hcode gh hP hT hdef hfree fun f c' pm ctv g2 H2 s2 I2 hcase hg2 hH2 hf hfn hfr hfs => wpAny_bind (wpAny_standAt (wpAny_pure ?_))))
  refine wpAny_evalAll_nil ?_
  obtain ⟨hl, ht⟩ := q1 c' g2 H2 hcase hg2 hH2
  have I3 : Inv X (pins ++ [(f, lamO (X.env.qual ++ "<lambda>") params body scope (cloFrom X.env.cells scope.names []) pm ctv c')]) σ H2 s2 := I2.pins_of fun p hp => by
    rcases List.mem_append.mp hp with z | z
    · exact I2.pin p (List.mem_append_right _ z)
    · rw [List.mem_singleton.mp z]
      exact ⟨hf, hfn, Nat.ne_of_gt (Nat.lt_of_lt_of_le I1.lt hfs), I1.nofs hfs, fun v z => nomatch z⟩
  have kf := kf_lam (X := X) (f := f) (c' := c') (pm := pm) (ctv := ctv) S C hr (fun cl u => hbind cl pm _ ctv u) (fun A outer s H hr2 => hbody A outer s H f c' hr2)
  refine thn (sort_key (by have := hr.un; omega) kf (fun p hp => List.mem_append_right _ hp) I3 hl (ksk_s1 _ _) (fun _ => ksk_l1 _ _) (fun _ => ksk_t1 _ _) ht) fun r s3 ⟨v, H3, I4, r3, q3⟩ => ⟨v, H3, I4.unpinned, r3, q3⟩
end
end Lw
/-! Typed: sorted(xs, key=..). -/
namespace Lw
open PySem PySem.Spec PyProof.Rows L2 PySem.W LamX NdefX
mutual
theorem dp_same {K : Frag} {H H' : Hp} (e : Same H H') : ∀ {v : V} {d : PyData}, Dp K H v d → Dp K H' v d
  | _, _, .non => .non
  | _, _, .bl b => .bl b
  | _, _, .int i => .int i
  | _, _, .str x => .str x
  | _, _, .lst h t => .lst (e.seq h) (dpAll_same e t)
  | _, _, .tup h t => .tup (same_seqT e h) (dpAll_same e t)
theorem dpAll_same {K : Frag} {H H' : Hp} (e : Same H H') : ∀ {vs : List V} {ds : List PyData}, DpAll K H vs ds → DpAll K H' vs ds
  | _, _, .nil => .nil
  | _, _, .cons h t => .cons (dp_same e h) (dpAll_same e t)
end
/-- the table of code objects of one name -/
def Own.tab (q : Str) : Own := ⟨fun g o => ∃ ps, o = .tbl ps ∧ TabT g q ps, fun {g g' o} e ⟨ps, h1, h2, h3⟩ => ⟨ps, h1, h2, fun pos cv hc => by
  obtain ⟨c, e1, e2⟩ := h3 pos cv hc
  exact ⟨c, e1, e _ _ e2⟩⟩⟩
section
variable {K : Frag} {env : Env K} {os : Os} {te tb : TE} {α κ : Type} [iα : Py K α] [iκ : Py K κ] {n : Nat} [dκ : PyD K κ n] {b : Bs} {g h : Hp} {σ : L2.St}
theorem paired_ix {β γ : Type} {F : β → γ → Prop} : ∀ {vs : List β} {xs : List γ} {i : Nat} {v : β}, Paired F vs xs → vs[i]? = some v → ∃ x, xs[i]? = some x ∧ F v x
  | _, _, _, _, .nil, e => by simp at e
  | _, _, 0, v, .cons r _, e => by simp at e; subst e; exact ⟨_, rfl, r⟩
  | _, _, i + 1, v, .cons _ t, e => by
    obtain ⟨x, h1, h2⟩ := paired_ix (i := i) (v := v) t (by simpa using e)
    exact ⟨x, by simpa using h1, h2⟩
theorem tsort_ev {t : V → Hp → VK → Prop} {vs : List V} {xs : List α} {key : α → κ} {Q : VK} (s : S0 b g h σ env os) (r : Paired (iα.R g) vs xs) (hal : AllAlike (xs.map fun x => dκ.d (key x))) (hk : Sortable (xs.map fun x => dκ.d (key x))) (hl : xs.length ≤ 1000000)
    (turn : ∀ (v : V) (x : α) (g' h' : Hp) (Q : VK), x ∈ xs → S0 b g' h' σ env os → Same g g' → iα.R g' v x → (∀ k g2 h2, Le g' h' g2 h2 → iκ.R g2 k (key x) → Q k h2) → t v h' Q)
    (q : ∀ l ws g' h', S0 b g' h' σ env os → Same g g' → h' l = none → Paired (iα.R g') ws (xs.mergeSort (dataLe false fun x => dκ.d (key x))) → Q (.ref l) (upd h' l (.lst ws))) (hn : n ≤ 60 := by decide) : tSortK K t vs h Q := by
  refine ⟨xs.map fun x => dκ.d (key x), fun H' => ∃ g', S0 b g' H' σ env os ∧ Same g g', by rw [List.length_map, r.length], hal, hk, by rw [r.length]; exact hl, fun d hd => ?_, ⟨g, s, Same.refl _⟩, fun i v d hv hd H' ⟨g', s', e'⟩ => ?_, fun H' p ⟨g', s', e'⟩ hp => q p _ g' H' s' e' hp (paired_sort (g := g') _ _ (pr_mono e' r))⟩
  · obtain ⟨x, _, rfl⟩ := List.mem_map.mp hd
    exact Nat.le_trans (dκ.deep _) hn
  · obtain ⟨x, hx, rx⟩ := paired_ix r hv
    rw [List.getElem?_map, hx] at hd
    obtain rfl : dκ.d (key x) = d := Option.some.inj hd
    exact turn v x g' H' _ (List.mem_of_getElem? hx) s' e' (iα.mono e' rx) fun k g2 h2 l2 rk => ⟨⟨g2, s'.le l2, e'.trans l2.gg⟩, dκ.dp l2.gh rk, fun v e hd => dp_same l2.hh hd⟩
/-- sorted(a list, key=a def that changes nothing) -/
theorem enw_sortF {A : List (Slot K) → (κ → Prop) → Prop} {xs : List α} {key : α → κ} (ha : Ev te env os xs) (hA : ∀ x ∈ xs, A [sv x] (fun k => k = key x)) (hal : AllAlike (xs.map fun x => dκ.d (key x))) (hk : Sortable (xs.map fun x => dκ.d (key x))) (hl : xs.length ≤ 1000000) (hn : n ≤ 60 := by decide) :
    EvNW (tSort1 K (fun _ v H Q => SpR K A [v] H Q E0) te) env os (fun ys => ys = xs.mergeSort (dataLe false fun x => dκ.d (key x))) := .mk fun {b g h σ os2 Q} s q =>
  ha s.drop fun v g1 h1 l1 r1 => by
    obtain ⟨a, vs, rfl, h2, h3⟩ := r1
    have s1 := s.le l1
    refine ⟨a, vs, rfl, l1.gh.seq h2, tsort_ev (key := key) s1 h3 hal hk hl (fun v x g' h' Q hx s' e' rx fin => ?_) (fun l ws g' h' s' e' hl rw' => q l ws _ g' h' rfl s' (l1.gg.trans e') hl rw') hn⟩
    exact ⟨g', [sv x], fun k => k = key x, hA x hx, s'.gh, .cons ⟨v, rfl, rx⟩ .nil, fun k z g2 h2 hz l2 rk => by subst hz; exact fin k g2 h2 l2 rk⟩
/-- the slots at the lambda's entry -/
def lamE (K : Frag) (N : List Str) (ix : List Nat) (env : Env K) (s : Slot K) : Env K := s :: ix.map (fun i => env.getD i .unk) ++ List.replicate (N.length - 1 - ix.length) .unk
theorem S0.lam {N : List Str} {ix : List Nat} {v : V} {x : α} (s : S0 b g h σ env os) (r : iα.R g v x) : S0 ⟨[], g, h⟩ g h (startF N [v] (capV σ ix)) (lamE K N ix env (sv x)) [] where
  gh := s.gh
  len := by simp [startF, lamE, capV]
  sl := fun i t e => by
    unfold lamE at e
    unfold startF
    cases i with
    | zero =>
      obtain rfl : sv x = t := Option.some.inj e
      exact ⟨v, rfl, r⟩
    | succ i =>
      show Slot.ok g t ((capV σ ix ++ List.replicate (N.length - 1 - (capV σ ix).length) none)[i]?.join)
      have e : (ix.map (fun i => env.getD i .unk) ++ List.replicate (N.length - 1 - ix.length) .unk)[i]? = some t := e
      by_cases hi : i < ix.length
      · rw [List.getElem?_append_left (by simpa using hi)] at e ⊢
        rw [List.getElem?_map, List.getElem?_eq_getElem hi] at e ⊢
        obtain rfl : env.getD ix[i] .unk = t := Option.some.inj e
        show Slot.ok g _ (σ[ix[i]]?.join)
        cases q : env[ix[i]]? with
        | none => rw [List.getD_eq_getElem?_getD, q]; trivial
        | some u => rw [List.getD_eq_getElem?_getD, q]; exact s.sl _ _ q
      · rw [List.getElem?_append_right (by simpa using hi), List.getElem?_replicate] at e
        split at e
        · obtain rfl := Option.some.inj e
          trivial
        · cases e
  own := fun p hp => absurd hp (by simp)
  nd := by simp
  gg := Same.refl _
  fr := fun a o _ q => q
  th := fun a n => n
  new := fun a n _ => n
  ol := fun p hp => absurd hp (by simp)
theorem set_at_self {β : Type} {l : List β} {i : Nat} {x : β} (h : l[i]? = some x) : l.set i x = l := by
  apply List.ext_getElem?
  intro j
  by_cases hj : i = j
  · subst hj
    rw [List.getElem?_set_self (List.getElem?_eq_some_iff.mp h).1, h]
  · rw [List.getElem?_set_ne hj]
/-- sorted(a list, key=lambda x: ..) -/
theorem enw_sortL {m : Nat} {P : Addr} {q : Str} {N : List Str} {ix : List Nat} {xs : List α} {key : α → κ} (ho : os[m]? = some (P, Own.tab q)) (ha : Ev te env os xs) (hb : ∀ x ∈ xs, Ev tb (lamE K N ix env (sv x)) [] (key x)) (hal : AllAlike (xs.map fun x => dκ.d (key x))) (hk : Sortable (xs.map fun x => dκ.d (key x))) (hl : xs.length ≤ 1000000) (hn : n ≤ 60 := by decide) :
    EvNW (tSortL K P q N ix tb te) env os (fun ys => ys = xs.mergeSort (dataLe false fun x => dκ.d (key x))) := .mk fun {b g h σ os2 Q} s qq =>
  ha s.drop fun v g1 h1 l1 r1 => by
    obtain ⟨a, vs, rfl, h2, h3⟩ := r1
    have s1 := s.le l1
    have ho2 : (os ++ os2)[m]? = some (P, Own.tab q) := by rw [List.getElem?_append_left (List.getElem?_eq_some_iff.mp ho).1]; exact ho
    obtain ⟨nP, o, eP, ps, rfl, hT⟩ := s1.own _ (List.mem_of_getElem? ho2)
    refine ⟨a, vs, ps, g1, rfl, s1.gh, eP, hT, fun c' g2 H2 hcase hg2 hH2 => ?_⟩
    have fin : S0 b g2 H2 σ env (os ++ os2) ∧ Same g1 g2 := by
      rcases hcase with ⟨rfl, rfl⟩ | ⟨nC, rfl, more, hT2, rfl⟩
      · exact ⟨s1, Same.refl _⟩
      · have hPc : P ≠ c' := ne_of_none eP nC
        have le := Le.laid s1.gh nC (o := CodeO c' q)
        have s3 := (s1.le le).put (w' := Own.tab q) (o := .tbl (ps ++ more)) ho2 ⟨_, rfl, hT2⟩
        rw [set_at_self ho2] at s3
        rw [upd_comm hPc]
        exact ⟨s3, le.gg⟩
    obtain ⟨s2, e2⟩ := fin
    refine ⟨s2.gh.seq (e2.seq h2), tsort_ev (key := key) s2 (pr_mono e2 h3) hal hk hl (fun v x g' h' Q hx s' e' rx fin => ⟨s'.gh _ _ (e' _ _ hg2), ?_⟩) (fun l ws g' h' s' e' hl rw' => qq l ws _ g' h' rfl s' (l1.gg.trans (e2.trans e')) hl rw') hn⟩
    exact hb x hx (s'.lam rx) fun k g2 h2 l2 rk => fin k g2 h2 l2 rk
end
end Lw
/-! Comparing data; classes without an __init__ and with a star __init__; subclasses; a choice of readings; tuples of six. -/
namespace Lw
open PySem PySem.Spec PyProof.Rows L2 ClX StX
section
variable {X : Cx}
/-! ### a > b, a <= b, a < b of data -/
def rCmpD (K : PySem.W.Frag) (r : PyData → PyData → Bool) : R2 := fun x y H Q => ∃ dx dy, Dp K H x dx ∧ Dp K H y dy ∧ PySem.W.alike dx dy = true ∧ dx ≠ .none ∧ dx.depth ≤ 60 ∧ Q (.bl (r dx dy)) H
theorem op_gtD (hu : X.A.units + 64 < cLine) : OpR X (compareOp .Gt) (rCmpD X.K fun a b => PySem.W.dataLt b a) := by
  intro pins s σ H x y v u Q I rx ry h
  obtain ⟨dx, dy, hx, hy, ha, hn, hd, q⟩ := h
  obtain ⟨as, r1⟩ := Dp.reads I dx x v hx rx
  obtain ⟨bs, r2⟩ := Dp.reads I dy y u hy ry
  exact PySem.W.gt_data r1 r2 ha hn (by have := Nat.min_le_left dx.depth dy.depth; omega) ⟨.bl _, H, I, rfl, q⟩
theorem op_leD (hu : X.A.units + 64 < cLine) : OpR X (compareOp .LtE) (rCmpD X.K fun a b => !PySem.W.dataLt b a) := by
  intro pins s σ H x y v u Q I rx ry h
  obtain ⟨dx, dy, hx, hy, ha, hn, hd, q⟩ := h
  obtain ⟨as, r1⟩ := Dp.reads I dx x v hx rx
  obtain ⟨bs, r2⟩ := Dp.reads I dy y u hy ry
  exact PySem.W.le_data r1 r2 ha hn (by have := Nat.min_le_left dx.depth dy.depth; omega) ⟨.bl _, H, I, rfl, q⟩
/-! ### C(), __init__ object's -/
structure Mk0 (K : PySem.W.Frag) (C : Addr) : Prop where
  makes : PySem.W.makesIn K C = true
  init : PySem.W.findIn K (.ref C) "__init__" = some (some (.builtin "object.__init__"))
  top : PySem.W.mroIn K C (.type "object") = some true
  kp : PySem.W.keepIn K (.ref C) = true
theorem mk0B_ok {K : PySem.W.Frag} {x : Str} (h : mk0B K x = true) : Mk0 K (He.ga K x) := by
  obtain ⟨h1, h⟩ := He.ba h
  obtain ⟨h2, h⟩ := He.ba h
  obtain ⟨h3, h4⟩ := He.ba h
  exact ⟨h1, He.eqO_ok h2, of_decide_eq_true h3, h4⟩
def tMake0 (C : Addr) : TE := fun σ H Q => ∀ x dx, H x = none → H dx = none → dx ≠ x → Q (.ref x) (upd (upd H dx (.own x)) x (.ins C dx []))
theorem run_make00 {C : Addr} {pins : List (Addr × Obj)} {σ : L2.St} {H : Hp} {s : Shared} {Q : VK} (M : Mk0 X.K C) (I : Inv X pins σ H s) (h : ∀ x dx, H x = none → H dx = none → dx ≠ x → Q (.ref x) (upd (upd H dx (.own x)) x (.ins C dx []))) :
    wpAny (model X.prog X.w) X.A (call (.ref C) []) (EP X pins σ Q) X.xe s := by
  have hq := h (s.heap.objs.size + 1) s.heap.objs.size (I.hok.fresh (Nat.le_succ _)) (I.hok.fresh (Nat.le_refl _)) (Nat.ne_of_lt (Nat.lt_succ_self _))
  have I2 := Inv.made (C := C) I
  refine wpAny_call (make_map0 I.kIn M.makes M.init (fun self => PySem.W.Looks.of_pure (PySem.W.oi_bind self)) ?_)
  have ex : ((s.heap.push PySem.W.emptyDict).push (PySem.W.instObj C s.heap.objs.size)).get? (s.heap.objs.size + 1) = some (PySem.W.instObj C s.heap.objs.size) := by
    have e : s.heap.objs.size + 1 = (s.heap.push PySem.W.emptyDict).objs.size := (size_push' _ _).symm
    rw [e]
    exact Heap.get?_push_size _ rfl
  have t2 : PySem.W.Looks (model X.prog X.w) ((s.heap.push PySem.W.emptyDict).push (PySem.W.instObj C s.heap.objs.size)) (isInstance (.ref (s.heap.objs.size + 1)) (.type "object")) true := (NwA.type_at ex rfl).andThen (PySem.W.looks_mroIn I2.kIn M.top)
  refine codeAny_call_builtin PySem.W.oi_plain PySem.W.entry_oi (@PySem.W.check_slot (model X.prog X.w) _ _ _ "object.__init__" "object" "__init__" (.ref (s.heap.objs.size + 1)) [] [] _ PySem.W.oi_kind PySem.W.oi_split t2 (NwA.oi_args_any (.ref (s.heap.objs.size + 1)) [] []) ?_)
  rw [PySem.W.oi_run]
  exact wpAny_pure (And.intro rfl ⟨V.ref (s.heap.objs.size + 1), _, I2, rfl, hq⟩)
/-- C() -/
theorem pe_mk0 {x : Str} {C : Addr} {p pos : Pos} (M : Mk0 X.K C) (hg : Gl X x) (hm : X.mg x = some (.ref C)) (hdb : (x == ("__debug__" : Str)) = false := by decide) : PE X (.Call (.Name x p) [] [] pos) (tMake0 C) := by
  refine ⟨fun pins s σ H Q I h => ?_⟩
  refine wpAny_Call_Name_kw (ld_glob I hg hm ?_ hdb)
  exact PySem.W.callWith_K0 I.kIn M.kp (run_make00 M I h)
/-! ### C(..), __init__ by position -/
structure MakR (P : Program) (w : World) (K : PySem.W.Frag) (mg : Str → Option Value) (base : Heap) (x : Str) (C : Addr) (k : Nat) (sp : Sp) : Prop where
  g : mg x = some (.ref C)
  ex : ∃ f, Mk K C f ∧ FnR P w K mg base (L2N.CX P w) k f sp
theorem tMakeR_eq {C : Addr} {sp : Sp} {E : XK} {t : TA} : tMakeR C sp E t = tMake C sp [] E t := by
  funext σ H Q
  unfold tMakeR tMake
  simp only [List.append_nil]
section
variable {C : Addr} {x : Str} {k : Nat} {sp : Sp} {E : XK} {W : WX} {e : Expr} {es : List Expr} {t : TA} {p pos : Pos}
theorem pe_mkR (M : MakR X.prog X.w X.K X.mg X.base x C k sp) (hr : Room (k + 1) X.A) (tk : L2N.Takes X W) (hW : ∀ cls d σ H, E cls d H → W cls d σ H) (hg : Gl X x) (ha : PA X (e :: es) t) (hdb : (x == ("__debug__" : Str)) = false := by decide)
    (he : starEach (e :: es) X.env = (false, eval e X.env) :: starEach es X.env := by rfl) (hpl : (backTo pos (starEach es X.env)).any (·.1) = false := by rfl) : PE X (.Call (.Name x p) (e :: es) [] pos) (tMake C sp [] E t) := by
  obtain ⟨f, hm, F⟩ := M.ex
  rw [← tMakeR_eq]
  exact pe_makeR hm F hr hg M.g (L2N.passes_call tk hW) ha hdb he hpl
theorem pe_mkR0 (M : MakR X.prog X.w X.K X.mg X.base x C k sp) (hr : Room (k + 1) X.A) (tk : L2N.Takes X W) (hW : ∀ cls d σ H, E cls d H → W cls d σ H) (hg : Gl X x) (hdb : (x == ("__debug__" : Str)) = false := by decide) : PE X (.Call (.Name x p) [] [] pos) (tMake C sp [] E tNil) := by
  obtain ⟨f, hm, F⟩ := M.ex
  rw [← tMakeR_eq]
  refine ⟨fun pins s σ H Q I h => ?_⟩
  refine wpAny_Call_Name_kw (ld_glob I hg M.g ?_ hdb)
  exact PySem.W.callWith_K0 I.kIn hm.kp (run_makeR (us := []) hm F hr (L2N.passes_call tk hW) I .nil h)
end
section
variable {fa : List He.Fa} {fn : List He.DefD} {ex : PySem.W.Frag → Bool} {xs : List XD} {P : Program} {w : World} {K : PySem.W.Frag} {mg : Str → Option Value} {base : Heap}
theorem Fy.makR (E : Fy fa fn ex xs K mg) (i j jg : Nat) {C q : Str} {st : Stmt} {k : Nat} {sp : Sp} (hi : fn[i]? = some ⟨(C, some "__init__"), "__init__", q, defArgs st, defBody st, defScope st, [], []⟩) (hj : fa[j]? = some (.mkr C)) (hg : fa[jg]? = some (.glo C))
    (hf : ∀ f fd, FunD K "__init__" q (defArgs st) (defBody st) (defScope st) [] [] f fd → FnR P w K mg base (L2N.CX P w) k f sp) : MakR P w K mg base C (He.ga K C) k sp := by
  obtain ⟨fd, F⟩ := E.f.d.def_ i hi
  exact ⟨E.gref jg hg, _, He.mkr_ok (E.f.d.fact j hj), hf _ fd F⟩
end
/-! ### isinstance(o, D), o an instance of a class over D -/
structure InsS (K : PySem.W.Frag) (C D : Addr) : Prop where
  cl : Cls K C
  ha : PySem.W.findIn K (.ref C) "__class__" = some (some (.builtin "object.__class__"))
  hn : PySem.W.specialIn K (.builtin "object.__class__") "__get__" = some (some (.builtin "getset_descriptor.__get__"))
  htk : PySem.W.takesIn K (.builtin "object.__class__") = some true
  hm : PySem.W.mroIn K C (.type "object") = some true
  me : PySem.W.kitOne K (.ref C) (.ref D) = some true
theorem insSB_ok {K : PySem.W.Frag} {x y : Str} (h : insSB K x y = true) : InsS K (He.ga K x) (He.ga K y) := by
  obtain ⟨h1, h⟩ := He.ba h
  obtain ⟨h2, h⟩ := He.ba h
  obtain ⟨h3, h⟩ := He.ba h
  obtain ⟨h4, h⟩ := He.ba h
  obtain ⟨h5, h6⟩ := He.ba h
  exact ⟨He.cls_ok h1, He.eqO_ok h2, He.eqO_ok h3, of_decide_eq_true h4, of_decide_eq_true h5, of_decide_eq_true h6⟩
/-- .. of some class of a list -/
theorem call_isS {Cs : List Addr} {D : Addr} (c : ∀ C ∈ Cs, InsS X.K C D) : CallR X (.builtin "isinstance") (fun xs H Q => ∃ a C dx fs, xs = [.ref a, .ref D] ∧ C ∈ Cs ∧ H a = some (.ins C dx fs) ∧ Q (.bl true) H) := by
  intro pins s σ H xs us Q I r h
  obtain ⟨a, C, dx, fs, rfl, hC, ha, q⟩ := h
  obtain ⟨u, w', rfl, ru, rw'⟩ := vals2 r
  cases rw'
  have c := c C hC
  exact isinst_ok I ru (TyOf.ins ha c.cl c.ha c.hn c.htk c.hm) c.me fun tk => ⟨.bl true, H, I.tok _, rfl, q⟩
/-! ### a choice of readings -/
theorem pe_any {ι : Type} {e : Expr} {t : ι → TE} (h : ∀ i, PE X e (t i)) : PE X e (fun σ H Q => ∃ i, t i σ H Q) := ⟨fun pins s σ H Q I ⟨i, q⟩ => (h i).run pins s σ H Q I q⟩
end
/-! ### tuples of six -/
structure Six where
  a : Int
  b : Int
  c : Sg
  d : Int
  e : Sg
  f : Sg
section
variable {K : PySem.W.Frag} {env : Env K} {os : Os} {ta tb tc td te tf : TE}
def Six.vs (x : Six) : List V := [.int x.a, .int x.b, .str x.c.s, .int x.d, .str x.e.s, .str x.f.s]
instance instSix : Py K Six := ⟨fun g v x => ∃ p, v = .ref p ∧ g p = some (.tup x.vs), fun {g g' v x} e ⟨p, h1, h2⟩ => ⟨p, h1, e _ _ h2⟩⟩
theorem ev_six {a b d : Int} {c e f : Sg} (ha : Ev ta env os a) (hb : Ev tb env os b) (hc : Ev tc env os c) (hd : Ev td env os d) (he : Ev te env os e) (hf : Ev tf env os f) : Ev (tTup (tCons ta (tCons tb (tCons tc (tCons td (tCons te (tCons tf tNil))))))) env os (Six.mk a b c d e f) := fun {bs g h σ Q} s q =>
  ha s fun v1 g1 h1 l1 r1 => hb (s.le l1) fun v2 g2 h2 l2 r2 => hc ((s.le l1).le l2) fun v3 g3 h3 l3 r3 => hd (((s.le l1).le l2).le l3) fun v4 g4 h4 l4 r4 => he ((((s.le l1).le l2).le l3).le l4) fun v5 g5 h5 l5 r5 => hf (((((s.le l1).le l2).le l3).le l4).le l5) fun v6 g6 h6 l6 r6 => by
    cases r1; cases r2; cases r3; cases r4; cases r5; cases r6
    exact ⟨by simp; decide, fun p hp => q _ (upd g6 p (.tup (Six.mk a b c d e f).vs)) _ ((((((l1.trans l2).trans l3).trans l4).trans l5).trans l6).trans (Le.laid l6.gh hp)) ⟨p, rfl, upd_same⟩⟩
theorem ev_six3 {x : Six} (ha : Ev ta env os x) : Ev (tOp (rIxT K) ta (tC (.int 3))) env os x.d := fun {b g h' σ Q} s q => ha s fun v g1 h1 l1 r1 => by
  obtain ⟨p, rfl, h2⟩ := r1
  exact ⟨p, x.vs, 3, _, rfl, rfl, same_tup l1.gh h2, rfl, q _ _ _ l1 rfl⟩
theorem ev_six4 {x : Six} (ha : Ev ta env os x) : Ev (tOp (rIxT K) ta (tC (.int 4))) env os x.e := fun {b g h' σ Q} s q => ha s fun v g1 h1 l1 r1 => by
  obtain ⟨p, rfl, h2⟩ := r1
  exact ⟨p, x.vs, 4, _, rfl, rfl, same_tup l1.gh h2, rfl, q _ _ _ l1 rfl⟩
theorem ev_six5 {x : Six} (ha : Ev ta env os x) : Ev (tOp (rIxT K) ta (tC (.int 5))) env os x.f := fun {b g h' σ Q} s q => ha s fun v g1 h1 l1 r1 => by
  obtain ⟨p, rfl, h2⟩ := r1
  exact ⟨p, x.vs, 5, _, rfl, rfl, same_tup l1.gh h2, rfl, q _ _ _ l1 rfl⟩
instance : PyD K Six 1 where
  d x := .tuple [.int x.a, .int x.b, .str x.c.s, .int x.d, .str x.e.s, .str x.f.s]
  ok x := x.c.l.all (· < 0x110000) = true ∧ x.e.l.all (· < 0x110000) = true ∧ x.f.l.all (· < 0x110000) = true
  dp e r := by
    obtain ⟨p, rfl, h⟩ := r
    exact .tup (same_tup e h) (.cons (.int _) (.cons (.int _) (.cons (.str _) (.cons (.int _) (.cons (.str _) (.cons (.str _) .nil))))))
  lay {x} h := by
    have z : ∀ y : Sg, y.l.all (· < 0x110000) = true → (PyData.str y.s).canLay0 = true := fun y hy => (inferInstance : PyD K Sg 0).lay (x := y) hy
    show (true && (true && ((PyData.str x.c.s).canLay0 && (true && ((PyData.str x.e.s).canLay0 && ((PyData.str x.f.s).canLay0 && true)))))) = true
    rw [z _ h.1, z _ h.2.1, z _ h.2.2]; rfl
  deep x := Nat.le_refl _
  eq {x y} := by
    show ((x.a == y.a) && ((x.b == y.b) && ((x.c.s == y.c.s) && ((x.d == y.d) && ((x.e.s == y.e.s) && ((x.f.s == y.f.s) && true)))))) = true ↔ _
    cases x; cases y
    simp only [Bool.and_eq_true, beq_iff_eq, Six.mk.injEq, and_true]
    constructor
    · rintro ⟨h1, h2, h3, h4, h5, h6⟩
      exact ⟨h1, h2, sg_inj h3, h4, sg_inj h5, sg_inj h6⟩
    · rintro ⟨rfl, rfl, rfl, rfl, rfl, rfl⟩
      exact ⟨rfl, rfl, rfl, rfl, rfl, rfl⟩
/-! ### comparing -/
variable {α β : Type} [iα : Py K α] {n : Nat} [dα : PyD K α n]
theorem ev_cmpD {r : PyData → PyData → Bool} {x y : α} (ha : Ev ta env os x) (hb : Ev tb env os y) (hal : PySem.W.alike (dα.d x) (dα.d y) = true) (hn : dα.d x ≠ .none) (h6 : n ≤ 60 := by decide) : Ev (tOp (rCmpD K r) ta tb) env os (r (dα.d x) (dα.d y)) := fun {b g h σ Q} s q =>
  ha s fun v g1 h1 l1 r1 => hb (s.le l1) fun w g2 h2 l2 r2 => ⟨_, _, dα.dp l2.gh (iα.mono l2.gg r1), dα.dp l2.gh r2, hal, hn, Nat.le_trans (dα.deep x) h6, q _ _ _ (l1.trans l2) rfl⟩
end
end Lw
/-! Texts in tuples and lists of texts; their places. -/
namespace Lw
open PySem PySem.Spec PyProof.Rows L2 TI
/-- the first place of x -/
def idx (xs : List Sg) (x : Sg) : Int := ((xs.findIdx fun y => decide (y = x) : Nat) : Int)
theorem idx_lt {xs : List Sg} {x : Sg} (h : x ∈ xs) : idx xs x < xs.length := by
  unfold idx
  have := List.findIdx_lt_length_of_exists (p := fun y => decide (y = x)) ⟨x, h, by simp⟩
  omega
theorem idx_0 {xs : List Sg} {x : Sg} : 0 ≤ idx xs x := by unfold idx; omega
theorem idx_get {xs : List Sg} {x : Sg} (h : x ∈ xs) : xs[xs.findIdx fun y => decide (y = x)]? = some x := by
  have hl := List.findIdx_lt_length_of_exists (p := fun y => decide (y = x)) ⟨x, h, by simp⟩
  have e := List.findIdx_getElem (w := hl)
  rw [List.getElem?_eq_getElem hl]
  exact congrArg some (of_decide_eq_true e)
theorem idx_inj {xs : List Sg} {x y : Sg} (hx : x ∈ xs) (hy : y ∈ xs) (e : idx xs x = idx xs y) : x = y := by
  unfold idx at e
  have e : (xs.findIdx fun z => decide (z = x)) = xs.findIdx fun z => decide (z = y) := by omega
  have h1 := idx_get hx
  rw [e, idx_get hy] at h1
  exact (Option.some.inj h1).symm
theorem idx_no {xs : List Sg} {x : Sg} {m : Nat} (h : m < xs.findIdx fun y => decide (y = x)) : xs[m]? ≠ some x := fun e => by
  have := List.not_of_lt_findIdx h
  obtain ⟨hl, e⟩ := List.getElem?_eq_some_iff.mp e
  rw [e] at this
  simp at this
section
variable {K : PySem.W.Frag}
theorem mt_tup_indexK {X : Cx} (h : X.K = K := by rfl) : MtR X "tuple.index" (fun x xs H Q => ∃ p, ∃ ys : List Str, ∃ z j, x = .ref p ∧ xs = [.str z] ∧ SqT K H p (ys.map V.str) ∧ ys[j]? = some z ∧ (∀ m, m < j → ys[m]? ≠ some z) ∧ Q (.int (j : Nat)) H) := h ▸ mt_tup_index
theorem mt_indexK {X : Cx} (h : X.K = K := by rfl) : MtR X "list.index" (rIndex K) := h ▸ mt_index
variable {env : Env K} {os : Os} {ta tb te : TE} {b : Bs} {g h g' h' : Hp} {σ : L2.St} {i m : Nat} {l : Addr}
theorem inV_sg {x : Sg} {xs : List Sg} : inV (.str x.s) (xs.map fun y => V.str y.s) = decide (x ∈ xs) := by
  unfold inV
  rw [List.any_map]
  by_cases h : x ∈ xs
  · rw [decide_eq_true h]
    exact List.any_eq_true.mpr ⟨x, h, by show (x.s == x.s) = true; exact beq_self_eq_true _⟩
  · rw [decide_eq_false h]
    exact List.any_eq_false.mpr fun y hy e => by
      have e : (y.s == x.s) = true := e
      exact h ((sg_inj (beq_iff_eq.mp e)) ▸ hy)
theorem flat_sg {xs : List Sg} : (xs.map fun y => V.str y.s).all flatV = true := by rw [List.all_map]; exact List.all_eq_true.mpr fun _ _ => rfl
theorem ev_inSgT {x : Sg} {xs : Tup Sg} (ha : Ev ta env os x) (hb : Ev tb env os xs) : Ev (tOp (rIn K false) ta tb) env os (decide (x ∈ xs.l)) := fun {b g h σ Q} s q =>
  ha s fun v g1 h1 l1 r1 => hb (s.le l1) fun w g2 h2 l2 r2 => by
    cases r1
    obtain ⟨a, vs, rfl, h3, h4⟩ := r2
    have e := paired_eq h4
    subst e
    exact ⟨a, _, rfl, .inr (same_tup l2.gh h3), rfl, flat_sg, by rw [inV_sg]; exact q _ _ _ (l1.trans l2) rfl⟩
theorem ev_inSg {x : Sg} {xs : List Sg} (ha : Ev ta env os x) (hb : Ev tb env os xs) : Ev (tOp (rIn K false) ta tb) env os (decide (x ∈ xs)) := fun {b g h σ Q} s q =>
  ha s fun v g1 h1 l1 r1 => hb (s.le l1) fun w g2 h2 l2 r2 => by
    cases r1
    obtain ⟨a, vs, rfl, h3, h4⟩ := r2
    have e := paired_eq h4
    subst e
    exact ⟨a, _, rfl, .inl (l2.gh.seq h3), rfl, flat_sg, by rw [inV_sg]; exact q _ _ _ (l1.trans l2) rfl⟩
theorem ev_niSg {x : Sg} {xs : List Sg} (ha : Ev ta env os x) (hb : Ev tb env os xs) : Ev (tOp (rIn K true) ta tb) env os (!decide (x ∈ xs)) := fun {b g h σ Q} s q =>
  ha s fun v g1 h1 l1 r1 => hb (s.le l1) fun w g2 h2 l2 r2 => by
    cases r1
    obtain ⟨a, vs, rfl, h3, h4⟩ := r2
    have e := paired_eq h4
    subst e
    exact ⟨a, _, rfl, .inl (l2.gh.seq h3), rfl, flat_sg, by rw [if_pos rfl, inV_sg]; exact q _ _ _ (l1.trans l2) rfl⟩
/-- .. in an owned list -/
theorem ev_niSgO {x : Sg} {xs : List Sg} (ha : Ev ta env os x) (hx : env[i]? = some (.val V inferInstance (V.ref l))) (ho : os[m]? = some (l, Own.lst K xs)) : Ev (tOp (rIn K true) ta (tVar i)) env os (!decide (x ∈ xs)) := fun {b g h σ Q} s q =>
  ha s fun v g1 h1 l1 r1 => ev_var hx (s.le l1) fun w g2 h2 l2 r2 => by
    cases r1
    cases r2
    obtain ⟨n1, o, e1, vs, rfl, p1⟩ := ((s.le l1).le l2).own _ (List.mem_of_getElem? ho)
    have e := paired_eq p1
    subst e
    exact ⟨l, _, rfl, .inl (SqL.of e1), rfl, flat_sg, by rw [if_pos rfl, inV_sg]; exact q _ _ _ (l1.trans l2) rfl⟩
theorem ev_idxL {x : Sg} {xs : List Sg} (ha : Ev ta env os xs) (hb : Ev tb env os x) (hm : x ∈ xs) : Ev (tBM K "list" (rIndex K) ta (tCons tb tNil)) env os (idx xs x) := fun {b g h σ Q} s q =>
  ha s fun v g1 h1 l1 r1 => by
    obtain ⟨a, vs, rfl, h3, h4⟩ := r1
    have e := paired_eq h4
    subst e
    refine ⟨.inl ⟨rfl, _, l1.gh.seq h3⟩, hb (s.le l1) fun w g2 h2 l2 r2 => ?_⟩
    cases r2
    refine ⟨a, xs.map fun y => V.str y.s, .str x.s, xs.findIdx fun y => decide (y = x), .str x.s, rfl, rfl, l2.gh.seq (l2.gg.seq h3), rfl, flat_sg, ?_, beq_self_eq_true _, fun m z hm2 e => ?_, q _ _ _ (l1.trans l2) rfl⟩
    · rw [List.getElem?_map, idx_get hm]; rfl
    · rw [List.getElem?_map] at e
      cases q2 : xs[m]? with
      | none => rw [q2] at e; cases e
      | some y =>
        rw [q2] at e
        obtain rfl : V.str y.s = z := Option.some.inj e
        show (y.s == x.s) = false
        exact beq_eq_false_iff_ne.mpr fun e2 => idx_no hm2 (by rw [q2, sg_inj e2])
end
/-! ### tuples whose object is known -/
structure TupF (α : Type) where
  l : List α
section
variable {K : PySem.W.Frag} {α : Type} [iα : Py K α] {env : Env K} {os : Os} {ta tb te : TE}
instance instTupF : Py K (TupF α) := ⟨fun g v xs => ∃ a vs o, v = .ref a ∧ g a = some (.frz o (.tup vs)) ∧ o.dict = none ∧ Paired (iα.R g) vs xs.l, fun {g g' v x} e h => by
  obtain ⟨a, vs, o, h1, h2, h3, h4⟩ := h
  exact ⟨a, vs, o, h1, e _ _ h2, h3, paired_mono (fun _ _ q => iα.mono e q) h4⟩⟩
theorem frz_tup {H H' : Hp} {a : Addr} {o : Obj} {vs : List V} (e : Same H H') (h : H a = some (.frz o (.tup vs))) : SqT K H' a vs := .inl (.inr ⟨o, e _ _ h⟩)
instance : PyT K (TupF α) "tuple" := ⟨fun e r => by obtain ⟨a, vs, o, rfl, q, _⟩ := r; exact tyx_tup (frz_tup e q)⟩
theorem tupF_eq {x y : TupF α} : x.l = y.l ↔ x = y := by cases x; cases y; simp
instance {n : Nat} [dα : PyD K α n] : PyD K (TupF α) (n + 1) where
  d xs := .tuple (xs.l.map dα.d)
  ok xs := ∀ x ∈ xs.l, dα.ok x
  dp e r := by obtain ⟨a, vs, o, rfl, q, _, p⟩ := r; exact .tup (frz_tup e q) (dp_all e p)
  lay h := lay_all h
  deep xs := Nat.succ_le_succ deep_all
  eq := eq_all.trans tupF_eq
theorem ev_inSgF {x : Sg} {xs : TupF Sg} (ha : Ev ta env os x) (hb : Ev tb env os xs) : Ev (tOp (rIn K false) ta tb) env os (decide (x ∈ xs.l)) := fun {b g h σ Q} s q =>
  ha s fun v g1 h1 l1 r1 => hb (s.le l1) fun w g2 h2 l2 r2 => by
    cases r1
    obtain ⟨a, vs, o, rfl, h3, _, h4⟩ := r2
    have e := paired_eq h4
    subst e
    exact ⟨a, _, rfl, .inr (frz_tup l2.gh h3), rfl, flat_sg, by rw [inV_sg]; exact q _ _ _ (l1.trans l2) rfl⟩
/-- a method of a known tuple -/
def tBMF (r : V → List V → Hp → VK → Prop) (to : TE) (t : TA) : TE := fun σ H Q => to σ H fun x H1 => (∃ p o vs, x = .ref p ∧ H1 p = some (.frz o (.tup vs)) ∧ o.dict = none) ∧ t σ H1 fun xs H2 => r x xs H2 Q
theorem pe_bmF {X : Cx} {o e : Expr} {es : List Expr} {to : TE} {t : TA} {name : Str} {apos cpos : Pos} {id : String} {r : V → List V → Hp → VK → Prop} (pa : PlainAttrs "tuple") (slot : PySem.Slot "tuple" name id) (hty : typeOf (.builtin id) = pure (.type "method_descriptor")) (hm : MtR X id r) (ho : PE X o to) (ha : PA X (e :: es) t)
    (hbase : attributeBase o name X.env (eval o X.env) = eval o X.env := by rfl)
    (hfew : ((backTo cpos (starEach (e :: es) X.env)).all (fun x => !x.1) && (backToKw cpos (keywordEach [] X.env)).all (fun x => x.1.isSome)
      && decide ((e :: es).length + ([] : List Keyword).length + (if ([] : List Keyword).isEmpty then 0 else 1) < 30)) = true := by rfl)
    (hline : (apos.endLine == cpos.line) = true := by rfl) (hs : starEach (e :: es) X.env = (false, eval e X.env) :: starEach es X.env := by rfl) (hplain : (backTo cpos (starEach es X.env)).any (·.1) = false := by rfl) :
    PE X (.Call (.Attribute o name apos) (e :: es) [] cpos) (tBMF r to t) := by
  refine ⟨fun pins s σ H Q I h => ?_⟩
  refine wpAny_Call_method_late hbase hfew hline rfl (thn (ho.run pins s σ H _ I h) fun v s1 ⟨x, H1, I1, r1, ⟨p, ob, vs, ex, hp, hd⟩, q1⟩ => ?_)
  subst ex
  obtain rfl : v = Value.ref p := r1
  obtain ⟨hob, _, its, _, o2, ho2, hc2, _⟩ := I1.hok p _ hp
  rw [hob] at ho2
  cases ho2
  refine ⟨"tuple", id, pa, slot, hty, ⟨ob, hob, hc2⟩, fun a e2 => ?_, ?_⟩
  · cases e2
    exact ⟨ob, hob, hd⟩
  have hA := ha.run cpos pins s1 σ H1 _ I1 q1
  rw [hs] at hA ⊢
  exact Calls.callWith_builtin (by show (false || (backTo cpos (starEach es X.env)).any (·.1)) = false; rw [hplain] <;> rfl) (Calls.evalArgs_plain (thn hA fun us s2 ⟨xs, H2, I2, r2, q2⟩ => hm pins s2 σ H2 (.ref p) xs (.ref p) us Q I2 rfl r2 q2))
theorem ev_idxF {x : Sg} {xs : TupF Sg} (ha : Ev ta env os xs) (hb : Ev tb env os x) (hm : x ∈ xs.l) : Ev (tBMF (fun x xs H Q => ∃ p, ∃ ys : List Str, ∃ z j, x = .ref p ∧ xs = [.str z] ∧ SqT K H p (ys.map V.str) ∧ ys[j]? = some z ∧ (∀ m, m < j → ys[m]? ≠ some z) ∧ Q (.int (j : Nat)) H) ta (tCons tb tNil)) env os (idx xs.l x) := fun {b g h σ Q} s q =>
  ha s fun v g1 h1 l1 r1 => by
    obtain ⟨a, vs, o, rfl, h3, hd, h4⟩ := r1
    have e := paired_eq h4
    subst e
    refine ⟨⟨a, o, _, rfl, l1.gh _ _ h3, hd⟩, hb (s.le l1) fun w g2 h2 l2 r2 => ?_⟩
    cases r2
    refine ⟨a, xs.l.map Sg.s, x.s, xs.l.findIdx fun y => decide (y = x), rfl, rfl, ?_, ?_, fun m hm2 e => ?_, q _ _ _ (l1.trans l2) rfl⟩
    · rw [List.map_map]; exact frz_tup l2.gh (l2.gg _ _ h3)
    · rw [List.getElem?_map, idx_get hm]; rfl
    · rw [List.getElem?_map] at e
      cases q2 : xs.l[m]? with
      | none => rw [q2] at e; cases e
      | some y =>
        rw [q2] at e
        have e : y.s = x.s := Option.some.inj e
        exact idx_no hm2 (by rw [q2, sg_inj e])
end
/-! ### a star parameter, its tuple known -/
def SpStarF (n : Nat) (sp : Sp) : Sp := fun vs H Q E => ∃ ws rest, vs = ws ++ rest ∧ ws.length = n ∧ rest.length ≤ sizeLine ∧ ∀ p ob, H p = Option.none → ob.dict = none → sp (ws ++ [V.ref p]) (upd H p (.frz ob (.tup rest))) Q E
section
variable {P : Program} {w : World} {K : PySem.W.Frag} {mg : Str → Option Value} {base : Heap}
theorem fn_starF {CX : CXT} {k : Nat} {f : Addr} {name qual : Str} {params : Arguments} {body : List Stmt} {scope : Scope} {dV kV doc pm cdv ct oc : Value} {an od : Option Addr} {osl : Array (Option Value)} {N ps : List Str} {sp : Sp} {pv : Str}
    (lk : K.lookup f = some ⟨oc, od, .func (PySem.W.fnOf name qual params body scope dV kV doc pm an cdv ct), osl⟩) (hcd : PySem.W.codeIn K cdv qual = true) (S : FnScope N (ps ++ [pv]) scope) (hCX : StX.CXUp CX)
    (hb : ∀ us rest : List Value, us.length = ps.length → bindArgs (PySem.W.fnOf name qual params body scope dV kV doc pm an cdv ct) ⟨us ++ rest, []⟩ = (newTuple rest >>= fun t => pure (ps.zip us ++ [(pv, t)])))
    (hbody : ∀ (A : Around) (outer : List PySem.Env) (s : Shared) (H : Hp) (vs : List V) (Q : VK) (E : XK), Room k (A.deeper (envOfC qual scope s.heap.objs.size f cdv)) → sp vs H Q E →
      ∃ t, PSs (cxOf CX P w K mg base N qual scope f cdv A outer s H E) body t ∧ t { nx := fun _ H' => Q .non H', rt := Q } (start N vs) H) : FnR P w K mg base CX (k + 1) f (SpStarF ps.length sp) := by
  intro A outer s H us vs Q E hr e0 r hsp
  obtain ⟨ws, rest, ev, hl, hz, hq⟩ := hsp
  subst ev
  obtain ⟨u1, u2, eu, r1, r2⟩ := StX.vals_split r
  subst eu
  have hn : H s.heap.objs.size = Option.none := e0.hok.fresh (Nat.le_refl _)
  have hl1 : u1.length = ps.length := by rw [← r1.length]; exact hl
  have hl2 : u2.length ≤ sizeLine := by rw [← r2.length]; exact hz
  refine StX.run_bnd lk hcd S hr e0 (G := fun xs H2 => ∃ p ob, H p = Option.none ∧ ob.dict = none ∧ xs = ws ++ [V.ref p] ∧ H2 = upd H p (.frz ob (.tup rest))) (fun A' Ex Q' h => ?_) fun s2 H2 xs ⟨p, ob, hp, hd, ex, eH⟩ hr' => ?_
  · rw [hb u1 u2 hl1]
    refine wpAny_bind (wpAny_newTuple (wpAny_pure ?_) hl2)
    have at_ : (s.heap.push ({ cls := .type "tuple", data := .seq u2.toArray } : Obj)).get? s.heap.objs.size = some ({ cls := .type "tuple", data := .seq u2.toArray } : Obj) := Heap.get?_push_size _ rfl
    have new : ObjOk P w (upd H s.heap.objs.size (.frz ({ cls := .type "tuple", data := .seq u2.toArray } : Obj) (.tup rest))) (s.heap.push ({ cls := .type "tuple", data := .seq u2.toArray } : Obj)) s.heap.objs.size (.frz ({ cls := .type "tuple", data := .seq u2.toArray } : Obj) (.tup rest)) := ⟨at_, hz, u2, r2, ⟨_, at_, rfl, _, rfl⟩⟩
    have un := StX.un_laid (fs := frs outer) (s := s) (o := ({ cls := .type "tuple", data := .seq u2.toArray } : Obj)) (u := .frz ({ cls := .type "tuple", data := .seq u2.toArray } : Obj) (.tup rest)) hn
    have z := h _ _ (ws ++ [V.ref s.heap.objs.size]) (u1 ++ [Value.ref s.heap.objs.size]) (StX.env0_laid e0 new) un rfl (fun e s' => hCX outer s H _ _ E e s' un (fun b o q => Heap.get?_push_of_some _ q) rfl) (r1.append (.cons rfl .nil))
      (by rw [List.length_append, List.length_append, hl] <;> rfl) ⟨_, _, hn, rfl, rfl, rfl⟩
    rw [List.zip_append hl1.symm] at z
    exact z
  · subst ex eH
    exact hbody A outer s2 _ _ Q E hr' (hq p ob hp hd)
theorem funD_starF {CX : CXT} {x qual : Str} {params : Arguments} {body : List Stmt} {scope : Scope} {kws : List (Str × V)} {f : Addr} {fd : FuncData} {N ps : List Str} {pv : Str} {k : Nat} {sp : Sp} (F : FunD K x qual params body scope [] kws f fd) (S : FnScope N (ps ++ [pv]) scope) (hCX : StX.CXUp CX) (hb : BindStar x qual params body scope ps pv)
    (hbody : ∀ (cdv : Value) (A : Around) (outer : List PySem.Env) (s : Shared) (H : Hp) (vs : List V) (Q : VK) (E : XK), Room k (A.deeper (envOfC qual scope s.heap.objs.size f cdv)) → sp vs H Q E →
      ∃ t, PSs (cxOf CX P w K mg base N qual scope f cdv A outer s H E) body t ∧ t { nx := fun _ H' => Q .non H', rt := Q } (start N vs) H) : FnR P w K mg base CX (k + 1) f (SpStarF ps.length sp) := by
  obtain ⟨oc, od, dV, kV, doc, pm, an, cdv, ct, osl, rfl, lk, hcd, hdV, _⟩ := F.ex
  obtain rfl : dV = .none := (hdV.resolve_right fun z => z.1 rfl).2
  exact fn_starF lk hcd S hCX (fun us rest h => hb kV doc pm an cdv ct us rest h) fun A outer s H vs Q E hr hsp => hbody cdv A outer s H vs Q E hr hsp
/-- what such a def takes, told of the arguments one by one -/
def aStXF (n : Nat) (α : Type) [iα : Py K α] {γ : Type} (A : List (Slot K) → Os → (γ → Os → Prop) → (Addr → List (Str × Slot K) → Prop) → Prop) : List (Slot K) → Os → (γ → Os → Prop) → (Addr → List (Str × Slot K) → Prop) → Prop :=
  fun xs os P PE => ∃ (ws : List (Slot K)) (ys : List α), xs = ws ++ ys.map (fun y => sv y) ∧ ws.length = n ∧ ys.length ≤ 1000 ∧ A (ws ++ [sv (TupF.mk ys)]) os P PE
theorem stXF_of {γ : Type} [iγ : Py K γ] {α : Type} [iα : Py K α] {n : Nat} {A : List (Slot K) → Os → (γ → Os → Prop) → (Addr → List (Str × Slot K) → Prop) → Prop} (vs : List V) (H : Hp) (Q : VK) (E : XK) (h : SpX K (aStXF n α A) vs H Q E) : SpStarF n (SpX K A) vs H Q E := by
  obtain ⟨g, xs, os, P, PE, ⟨ws, ys, rfl, hn, hl, hA⟩, gh, o, r, q, qe⟩ := h
  obtain ⟨v1, v2, rfl, r1, r2⟩ := args_split r
  have r2 := args_paired r2
  refine ⟨v1, v2, rfl, by rw [args_len r1]; exact hn, by rw [r2.length, sizeLine_eq]; omega, fun p ob hp hd => ?_⟩
  have le := Le.laid (o := .frz ob (.tup v2)) gh hp
  refine ⟨upd g p (.frz ob (.tup v2)), _, os, P, PE, hA, le.gh, ow_after le o, args_append (args_mono le.gg r1) (.cons ⟨_, rfl, p, v2, ob, rfl, upd_same, hd, pr_mono le.gg r2⟩ .nil), fun v z os' g' h' hz hs l2 o2 rz => q v z os' g' h' hz (fun p' hp' => ?_) (leW_after le l2) o2 rz, fun C fs d ws g' h' he l2 hd hf => qe C fs d ws g' h' he (leW_after le l2) hd hf⟩
  rcases hs p' hp' with w | w
  · exact .inl w
  · refine .inr ?_
    cases e : H p'.1 with
    | none => rfl
    | some u => exact absurd w (sameNe le.hh (some_ne_none e))
end
end Lw
/-! Defs whose code object is told; makers without an __init__. -/
namespace Lw
open PySem PySem.Spec PyProof.Rows L2 ClX
section
variable {fa : List He.Fa} {fn : List He.DefD} {ex : PySem.W.Frag → Bool} {P : Program} {w : World} {K : PySem.W.Frag} {mg : Str → Option Value} {base : Heap} {γ : Type} [iγ : Py K γ]
/-- a def that changes its objects keeps its promise; its code object is told -/
theorem okWC {x qual : Str} {st : Stmt} {fd : FuncData} {N ps : List Str} {k : Nat} {A : List (Slot K) → Os → (γ → Os → Prop) → Prop} {dvs : List V} {kws : List (Str × V)} {p : He.Defn} (F : FunD K x qual (defArgs st) (defBody st) (defScope st) dvs kws (He.fAd K p) fd) (S : FnScope N ps (defScope st)) (hlen : ∀ xs os P', A xs os P' → xs.length = ps.length)
    (hb : ∀ (Ar : Around) (outer : List PySem.Env) (s : Shared) (H : Hp) (E : XK), Room k (Ar.deeper (envOfC qual (defScope st) s.heap.objs.size (He.fAd K p) (.ref (He.codeOf K p)))) → ∀ (xs : List (Slot K)) (os : Os) (P' : γ → Os → Prop), A xs os P' →
      ∃ t, PSs (cxOf CX0 P w K mg base N qual (defScope st) (He.fAd K p) (.ref (He.codeOf K p)) Ar outer s H E).nox (defBody st) t ∧
        ∀ (g : Hp) (σ : L2.St) (Q : VK), S0 ⟨os.map (·.1), g, H⟩ g H σ (xs ++ List.replicate (N.length - xs.length) .unk) os →
          (∀ v z g' h' σ' env' os' os2, P' z os' → (∀ p ∈ os', p ∈ os2) → S0 ⟨os.map (·.1), g, H⟩ g' h' σ' (env' : Env K) os2 → (os'.map (·.1)).Nodup → iγ.R g' v z → Q v h') → t { nx := fun _ H' => Q .non H', rt := Q } σ H) : FnOk P w K mg base CX0 (k + 1) (He.fAd K p) fd ps (SpW K A) := by
  obtain ⟨oc, od, dV, kV, doc, pm, an, cdv, ct, osl, rfl, lk, hcd, _, _⟩ := F.ex
  obtain ⟨c, rfl⟩ := He.codeIn_ref hcd
  obtain rfl : He.codeOf K p = c := He.codeOf_eq lk rfl
  refine fn_of lk hcd S (fun vs H Q E h => ?_) fun Ar outer s H vs Q E hr h => ?_
  · obtain ⟨g, xs, os, P', hA, _, _, r, _⟩ := h
    rw [args_len r]
    exact hlen xs os P' hA
  · obtain ⟨g, xs, os, P', hA, gh, o, r, q⟩ := h
    obtain ⟨t, ht, hq⟩ := hb Ar outer s H E hr xs os P' hA
    refine ⟨t, ht.nox, hq g _ Q (S0.startW gh r o) fun v z g' h' σ' env' os' os2 hz hs s' nd rz => q v z os' g' h' hz (fun p hp => ?_) ⟨s'.gg, s'.fr, s'.gh, s'.th, s'.new⟩ (s'.ow.sub hs nd) rz⟩
    rcases s'.ol p (hs p hp) with w | w
    · exact .inr w
    · exact .inl w
variable {xs : List XD}
theorem Fy.metC {CX : CXT} (E : Fy fa fn ex xs K mg) (i j jc : Nat) {C m q : Str} {st : Stmt} {ps : List Str} {k : Nat} {sp : Sp} (hi : fn[i]? = some ⟨(C, some m), m, q, defArgs st, defBody st, defScope st, [], []⟩) (hj : fa[j]? = some (.meth C m)) (hc : fa[jc]? = some (.cls C))
    (hbi : ∀ (kV doc pm : Value) (an : Option Addr) (cdv ct : Value) (us : List Value), us.length = ps.length → bindArgs (PySem.W.fnOf m q (defArgs st) (defBody st) (defScope st) .none kV doc pm an cdv ct) ⟨us, []⟩ = pure (ps.zip us))
    (hf : ∀ fd, FunD K m q (defArgs st) (defBody st) (defScope st) [] [] (He.fAd K (C, some m)) fd → FnOk P w K mg base CX k (He.fAd K (C, some m)) fd ps sp) : Met CX P w K mg base (He.ga K C) m k ps sp := by
  obtain ⟨fd, F⟩ := E.f.d.def_ i hi
  exact ⟨He.cls_ok (E.f.d.fact jc hc), _, fd, He.meth_ok (E.f.d.fact j hj), F.bindsN hbi, hf fd F⟩
end
section
variable {K : PySem.W.Frag} {env : Env K} {os : Os} {te : TE} {α β : Type} [iα : Py K α] [iβ : Py K β]
/-- C() -/
theorem ev_mk0 {C : Addr} {z : α} (hR : ∀ g v, (∃ a dx, v = .ref a ∧ g a = some (.ins C dx [])) → iα.R g v z) : Ev (tMake0 C) env os z := fun {b g h σ Q} s q x dx hx hdx hne => by
  have l1 := Le.laid (o := .own x) s.gh hdx
  have hx2 : upd h dx (.own x) x = none := by rw [upd_ne (Ne.symm hne)]; exact hx
  have l2 := Le.laid (o := .ins C dx []) l1.gh hx2
  exact q _ _ _ (l1.trans l2) (hR _ _ ⟨x, dx, rfl, upd_same⟩)
theorem st_retNW {b : Bs} {g h : Hp} {σ : L2.St} {D : Ends} {P : List α → Prop} (s : S0 b g h σ env os) (e : EvNW te env os P) (k : ∀ xs, P xs → ∀ l g' h', S0 b g' h' σ env (os ++ [(l, Own.lst K xs)]) → D.rt (.ref l) h') : tRet te D σ h :=
  e.go s fun l vs xs g1 h1 p s1 _ hl r1 => k xs p l g1 _ (s1.add (w := Own.lst K xs) hl ⟨vs, rfl, r1⟩)
/-- told as another type -/
theorem Ev.conv {x : α} {y : β} (h : Ev te env os x) (c : ∀ g v, iα.R g v x → iβ.R g v y) : Ev te env os y := fun {b g h' σ Q} s q => h s fun v g1 h1 l1 r1 => q v g1 h1 l1 (c _ _ r1)
end
end Lw
/-! Methods that change objects; a new owned list told as a value; == of unlike types. -/
namespace Lw
open PySem PySem.Spec PyProof.Rows L2 ClX
section
variable {K : PySem.W.Frag} {env : Env K} {os osc os' osz rest : Os} {ta tb te : TE} {t : TA} {tt : TT} {α β γ : Type} [iα : Py K α] [iβ : Py K β] [iγ : Py K γ] {b : Bs} {g h g' h' : Hp} {σ : L2.St} {D : Ends} {i j m : Nat} {l : Addr} {C : Addr} {fs : List (Str × Slot K)}
theorem cw_meth {A : List (Slot K) → Os → (γ → Os → Prop) → Prop} {P : γ → Os → Prop} {xs : List (Slot K)} {x : α} {E : XK} {mn : Str} {Q : VK} (osc rest : Os) (s : S0 b g h σ env os) (hp : os.Perm (osc ++ rest)) (ha : Ev ta env os x) (hR : InsOf K C x fs) (hm : fs.lookup mn = none) (e : EvA t env os xs) (hA : A (sv x :: xs) osc P)
    (k : ∀ v z osz g' h', P z osz → (∀ p ∈ osz, p.1 ∈ osc.map (·.1) ∨ b.h p.1 = none) → S0 b g' h' σ env (osz ++ rest) → Same g g' → iγ.R g' v z → Q v h') : tMeth C mn (SpW K A) [] E ta t σ h Q :=
  ha s fun u g0 h0 l0 r0 => by
    obtain ⟨a, dx, ws, rfl, h2, h3⟩ := hR _ _ r0
    refine ⟨a, dx, ws, rfl, l0.gh _ _ h2, fsr_none h3 hm, e (s.le l0) fun vs g1 h1 l1 r1 => ?_⟩
    have s1 := (s.le l0).le l1
    have s2 := s1.perm hp
    have nd2 := s2.nd
    rw [List.map_append] at nd2
    have nds := List.nodup_append.mp nd2
    refine ⟨g1, sv x :: xs, osc, P, hA, l1.gh, s2.ow.sub (fun p q => List.mem_append_left _ q) nds.1, by rw [List.append_nil]; exact .cons ⟨_, rfl, iα.mono l1.gg r0⟩ r1, fun v z osz g2 h2 hz hf l2 o2 r2 => ?_⟩
    refine k v z osz g2 h2 hz (fun p hp => ?_) (s2.after (fun p q => List.mem_append_left _ q) l2 o2 hf (fun p q => ?_) ?_) (l0.gg.trans (l1.gg.trans l2.gg)) r2
    · rcases hf p hp with z | z
      · exact .inl z
      · right
        cases w : b.h p.1 with
        | none => rfl
        | some u => exact absurd z (s2.th _ (some_ne_none w))
    · rcases List.mem_append.mp q with q | q
      · exact .inl q
      · exact .inr ⟨List.mem_append_right _ q, fun z => nds.2.2 _ z _ (List.mem_map_of_mem q) rfl⟩
    · rw [List.map_append]
      refine List.nodup_append.mpr ⟨o2.nd, nds.2.1, fun x hx y hy exy => ?_⟩
      subst exy
      obtain ⟨p, hpz, rfl⟩ := List.mem_map.mp hx
      obtain ⟨q, hq, e1⟩ := List.mem_map.mp hy
      rcases hf p hpz with z | z
      · exact nds.2.2 _ z _ (List.mem_map_of_mem hq) e1.symm
      · obtain ⟨_, u, e2, _⟩ := s2.own q (List.mem_append_right _ hq)
        rw [e1, z] at e2
        cases e2
/-- a new owned list, told as a value -/
theorem S0.toVal {xs : List α} (s : S0 b g h σ env (os ++ [(l, Own.lst K xs)])) (nb : b.h l = none) : ∃ g', S0 b g' h σ env os ∧ Same g g' ∧ (instList (K := K) (α := α)).R g' (.ref l) xs := by
  have hm : (l, Own.lst K xs) ∈ os ++ [(l, Own.lst K xs)] := List.mem_append_right _ List.mem_cons_self
  obtain ⟨n1, o, e1, vs, rfl, p1⟩ := s.own _ hm
  have lg : Same g (upd g l (.lst vs)) := fun c u q => by rw [upd_ne (ne_of_none q n1)]; exact q
  have nd := s.nd
  rw [List.map_append] at nd
  have nds := List.nodup_append.mp nd
  refine ⟨upd g l (.lst vs), ⟨fun c u q => ?_, s.len, fun n t e => Slot.ok_mono lg (s.sl n t e), fun p hp => ?_, nds.1, s.gg.trans lg, s.fr, s.th, fun a n m => ?_, fun p hp => s.ol p (List.mem_append_left _ hp)⟩, lg, l, vs, rfl, .inl (.inl upd_same), pr_mono lg p1⟩
  · by_cases hc : c = l
    · subst hc; rw [upd_same] at q; cases q; exact e1
    · rw [upd_ne hc] at q; exact s.gh _ _ q
  · obtain ⟨n2, o2, e2, q2⟩ := s.own p (List.mem_append_left _ hp)
    have hne : p.1 ≠ l := nds.2.2 _ (List.mem_map_of_mem hp) _ (by simp)
    exact ⟨by rw [upd_ne hne]; exact n2, o2, e2, p.2.mono lg q2⟩
  · rw [upd_ne (fun z => by rw [z, nb] at m; exact m rfl)]
    exact s.new a n m
theorem ev_neD2 {n m : Nat} [d : PyD K α n] [d2 : PyD K β m] {x : α} {y : β} (ha : Ev ta env os x) (hb : Ev tb env os y) (c : Bool) (hc : PyData.eqv (d.d x) (d2.d y) = c) (ox : d.ok x) (oy : d2.ok y) (hd : n ≤ 64 := by decide) (hd2 : m ≤ 64 := by decide) : Ev (tOp (rNeD K) ta tb) env os (!c) := fun {b g h σ Q} s q =>
  ha s fun v g1 h1 l1 r1 => hb (s.le l1) fun w g2 h2 l2 r2 => ⟨_, _, d.dp (l2.gg.trans l2.gh) r1, d2.dp l2.gh r2, shaped_of ox hd, shaped_of oy hd2, by rw [hc]; exact q _ _ _ (l1.trans l2) rfl⟩
/-- a call that leaves its objects as they are told, some of them handed on -/
theorem ew_callWS {A : List (Slot K) → Os → (γ → Os → Prop) → Prop} {PX : List (Slot K) → Prop} {P : γ → Prop} {E : XK} {ts : TA} (osc : Os) (h : EvAW ts env os PX) (hc : osc.Sublist os)
    (hA : ∀ xs, PX xs → A xs osc (fun z os' => P z ∧ os' = osc)) : EvW (tCall (SpW K A) [] E ts) env os P := .mk fun {b g h' σ os2 Q} s q =>
  h.run s fun vs xs g1 h1 p1 s1 e1 r1 => by
    have nd' : (osc.map (·.1)).Nodup := (hc.map _).nodup (S0.drop s1).nd
    have hc' : ∀ p ∈ osc, p ∈ os ++ os2 := fun p hp => List.mem_append_left _ (hc.subset hp)
    refine ⟨g1, xs, osc, _, hA xs p1, s1.gh, s1.ow.sub hc' nd', by rw [List.append_nil]; exact r1, fun v z os' g2 h2 hz _ l2 o2 r2 => ?_⟩
    obtain ⟨hz, rfl⟩ := hz
    exact q v z g2 h2 hz (s1.afterSame hc' l2 o2) (e1.trans l2.gg) r2
end
instance {K : PySem.W.Frag} {α β γ : Type} [iα : Py K α] [iβ : Py K β] [iγ : Py K γ] : PyT K (Tri α β γ) "tuple" := ⟨fun e r => by obtain ⟨a, u, w, z, rfl, q, _⟩ := r; exact tyx_tup (same_tup e q)⟩
end Lw
namespace K22
open PySem PySem.Spec PyProof.Rows L2 Lw NdefX
theorem ck {K : PySem.W.Frag} {mg : Str → Option Value} (E : FX K mg) (i : Nat) {b : Bool} (h : (cks K)[i]? = some b := by rfl) : b = true := all_at E.f.more h
end K22
namespace K22
open PySem PySem.Spec PyProof.Rows L2 Lw ClX
variable {P : Program} {w : World} {K : PySem.W.Frag} {mg : Str → Option Value} {base : Heap}
/-! ### the ranks -/
abbrev Row := Tri Sg Sg Int
def a_by_ready (K : PySem.W.Frag) : List (Slot K) → (Tri Int Sg Sg → Prop) → Prop := fun xs P => ∃ r : Row, xs = [sv r] ∧ P ⟨r.c, r.a, r.b⟩
theorem sc_by_ready : FnScope ["row"] ["row"] (defScope (topS 1)) := ⟨rfl, rfl, rfl, by decide +kernel, rfl, by decide +kernel, by decide +kernel⟩
theorem ok_by_ready (E : FX K mg) (hPr : ThisP P) : Cal P w K mg base "by_ready" 1 ["row"] (SpR K (a_by_ready K)) := by
  refine E.cal 0 0 (st := (topS 1)) rfl rfl (fun _ _ _ _ _ _ us hl => match us, hl with | [_], _ => rfl) fun f fd F => okRD F sc_by_ready (fun xs P' h => ?_) (fun cdv Ar outer s0 H0 E0 hr xs P' h => ?_)
  · obtain ⟨_, rfl, _⟩ := h; rfl
  · obtain ⟨row, rfl, hP⟩ := h
    refine ⟨_, (pss_one (ps_ret (pe_tup (pa_cons (pe_ix (ix_tupK K) (pv 0) pe_int (fun _ _ => rfl)) (pa_cons (pe_ix (ix_tupK K) (pv 0) pe_int (fun _ _ => rfl)) (pa_cons (pe_ix (ix_tupK K) (pv 0) pe_int (fun _ _ => rfl)) pa_nil)))))) , fun g σ Q s fin => ?_⟩
    exact st_ret s (ev_tri (ev_ixC (ev_var rfl)) (ev_ixA (ev_var rfl)) (ev_ixB (ev_var rfl))) fun v g h s r => fin v _ g h _ _ _ hP s r
def prank (told : List Sg) (p : Sg) : Tri Int Int Sg := if p ∈ told then ⟨0, idx told p, ⟨[]⟩⟩ else ⟨1, 0, p⟩
def a_plan_rank (K : PySem.W.Frag) : List (Slot K) → (Tri Int Int Sg → Prop) → Prop := fun xs P => ∃ (told : TupF Sg) (p : Sg), xs = [sv told, sv p] ∧ P (prank told.l p)
theorem sc_plan_rank : FnScope ["told", "plan"] ["told", "plan"] (defScope (topS 2)) := ⟨rfl, rfl, rfl, by decide +kernel, rfl, by decide +kernel, by decide +kernel⟩
theorem ok_plan_rank (E : FX K mg) (hPr : ThisP P) : Cal P w K mg base "plan_rank" 1 ["told", "plan"] (SpR K (a_plan_rank K)) := by
  refine E.cal 1 1 (st := (topS 2)) rfl rfl (fun _ _ _ _ _ _ us hl => match us, hl with | [_, _], _ => rfl) fun f fd F => okRD F sc_plan_rank (fun xs P' h => ?_) (fun cdv Ar outer s0 H0 E0 hr xs P' h => ?_)
  · obtain ⟨_, _, rfl, _⟩ := h; rfl
  · obtain ⟨told, plan, rfl, hP⟩ := h
    refine ⟨_, (pss_cons (ps_if (pt_cmpR (in_seqK K) (pv 1) (pv 0) (by rfl)) (pss_one (ps_ret (pe_tup (pa_cons pe_int (pa_cons (pe_bmF PySem.F.plainAttrs_tuple PySem.F.slot_tuple_index PySem.F.type_tuple_index mt_tup_indexK (pv 0) (pa_cons (pv 1) pa_nil)) (pa_cons pe_str pa_nil)))))) pss_nil)
    (pss_one (ps_ret (pe_tup (pa_cons pe_int (pa_cons pe_int (pa_cons (pv 1) pa_nil))))))) , fun g σ Q s fin => ?_⟩
    refine st_if s (et_test (ev_inSgF (ev_var rfl) (ev_var rfl))) (fun hc g h s => ?_) (fun hc g h s => ?_)
    · have hm : plan ∈ told.l := of_decide_eq_true hc
      rw [show prank told.l plan = ⟨0, idx told.l plan, ⟨[]⟩⟩ from if_pos hm] at hP
      exact st_ret s (ev_tri ev_int (ev_idxF (ev_var rfl) (ev_var rfl) hm) (ev_lit (l := []))) fun v g h s r => fin v _ g h _ _ _ hP s r
    · rw [show prank told.l plan = ⟨1, 0, plan⟩ from if_neg (of_decide_eq_false hc)] at hP
      exact st_ret s (ev_tri ev_int ev_int (ev_var rfl)) fun v g h s r => fin v _ g h _ _ _ hP s r
abbrev d3 (r : Tri Int Int Sg) : PyData := .tuple [.int r.a, .int r.b, .str r.c.s]
def rturn (told : List Sg) (p last : Sg) : Bool := decide (last = ⟨[]⟩) || PySem.W.dataLt (d3 (prank told last)) (d3 (prank told p))
def rrank (told : List Sg) (p last : Sg) : Int × Tri Int Int Sg := (if rturn told p last = true then 0 else 1, prank told p)
def a_round_rank (K : PySem.W.Frag) : List (Slot K) → (Int × Tri Int Int Sg → Prop) → Prop := fun xs P => ∃ (told : TupF Sg) (p last : Sg), xs = [sv told, sv p, sv last] ∧ P (rrank told.l p last)
theorem sc_round_rank : FnScope ["told", "plan", "last", "rank"] ["told", "plan", "last"] (defScope (topS 3)) := ⟨rfl, rfl, rfl, by decide +kernel, rfl, by decide +kernel, by decide +kernel⟩
theorem ok_round_rank (E : FX K mg) (hPr : ThisP P) : Cal P w K mg base "round_rank" 2 ["told", "plan", "last"] (SpR K (a_round_rank K)) := by
  refine E.cal 2 2 (st := (topS 3)) rfl rfl (fun _ _ _ _ _ _ us hl => match us, hl with | [_, _, _], _ => rfl) fun f fd F => okRD F sc_round_rank (fun xs P' h => ?_) (fun cdv Ar outer s0 H0 E0 hr xs P' h => ?_)
  · obtain ⟨_, _, _, rfl, _⟩ := h; rfl
  · obtain ⟨told, plan, last, rfl, hP⟩ := h
    refine ⟨_, (pss_cons (ps_set (i := 3) sc_round_rank.nd rfl (.inl rfl) (pe_c (ok_plan_rank E hPr) (hr.mono (by decide)) rfl (pa_cons (pv 0) (pa_cons (pv 1) pa_nil))))
    (pss_cons (ps_if (PW.pt (pw_or (pt_cmpR op_eq (pv 2) pe_str (nomark _)) (pw_or1 (pt_cmpR (op_gtD hr.units) (pv 3) (pe_c (ok_plan_rank E hPr) (hr.mono (by decide)) rfl (pa_cons (pv 0) (pa_cons (pv 2) pa_nil))) (nomark _))))) (pss_one (ps_ret (pe_tup (pa_cons pe_int (pa_cons (pv 3) pa_nil))))) pss_nil)
    (pss_one (ps_ret (pe_tup (pa_cons pe_int (pa_cons (pv 3) pa_nil))))))) , fun g σ Q s fin => ?_⟩
    refine st_set s (ev_call (z := prank told.l plan) (ea_cons (ev_var rfl) (ea_cons (ev_var rfl) ea_nil)) ⟨told, plan, rfl, rfl⟩) (fun v g h s => ?_)
    refine st_if s (et_or (et_test (ev_eqG (ev_var rfl) (ev_lit (l := [])))) fun _ => et_test (ev_cmpD (r := fun a b => PySem.W.dataLt b a) (ev_var rfl) (ev_call (z := prank told.l last) (ea_cons (ev_var rfl) (ea_cons (ev_var rfl) ea_nil)) ⟨told, last, rfl, rfl⟩) rfl (fun z => nomatch (show d3 _ = PyData.none from z)))) (fun hc g h s => ?_) (fun hc g h s => ?_)
    · have hc : rturn told.l plan last = true := hc
      unfold rrank at hP
      rw [hc, if_pos rfl] at hP
      exact st_ret s (ev_pair ev_int (ev_var rfl)) fun v g h s r => fin v _ g h _ _ _ hP s r
    · have hc : rturn told.l plan last = false := hc
      unfold rrank at hP
      rw [hc, if_neg (by decide)] at hP
      exact st_ret s (ev_pair ev_int (ev_var rfl)) fun v g h s r => fin v _ g h _ _ _ hP s r
end K22
namespace K22
open PySem PySem.Spec PyProof.Rows L2 Lw ClX LamX NdefX
variable {P : Program} {w : World} {K : PySem.W.Frag} {mg : Str → Option Value} {base : Heap}
/-! ### the rules -/
inductive RV where
  | rule | soonest
  | ranked (told : List Sg)
  | rounds (told : List Sg)
abbrev cRule (K : PySem.W.Frag) : Addr := He.ga K "Rule"
abbrev cSoon (K : PySem.W.Frag) : Addr := He.ga K "Soonest"
abbrev cRank (K : PySem.W.Frag) : Addr := He.ga K "Ranked"
abbrev cRoun (K : PySem.W.Frag) : Addr := He.ga K "Rounds"
def RV.cls (K : PySem.W.Frag) : RV → Addr
  | .rule => cRule K
  | .soonest => cSoon K
  | .ranked _ => cRank K
  | .rounds _ => cRoun K
abbrev toldFs (K : PySem.W.Frag) (t : List Sg) : List (Str × Slot K) := [("plans_told", sv (TupF.mk t))]
def RV.fs (K : PySem.W.Frag) : RV → List (Str × Slot K)
  | .ranked t => toldFs K t
  | .rounds t => toldFs K t
  | _ => []
instance instRV : Py K RV := ⟨fun g v x => ∃ a dx ws, v = .ref a ∧ g a = some (.ins (x.cls K) dx ws) ∧ FsR g ws (x.fs K), fun {g g' v x} e ⟨a, dx, ws, h1, h2, h3⟩ => ⟨a, dx, ws, h1, e _ _ h2, fsr_mono e h3⟩⟩
theorem rv_ins {x : RV} : InsOf K (x.cls K) x (x.fs K) := fun g v r => r
abbrev qRank : Str := ("Ranked.order" : Str) ++ ".<locals>." ++ "<lambda>"
abbrev qRoun : Str := ("Rounds.order" : Str) ++ ".<locals>." ++ "<lambda>"
abbrev tRank (K : PySem.W.Frag) : Addr := (He.cT K ("Ranked", some "order")).2
abbrev tRoun (K : PySem.W.Frag) : Addr := (He.cT K ("Rounds", some "order")).2
abbrev oRank (K : PySem.W.Frag) : Addr × Own := (tRank K, Own.tab qRank)
abbrev oRoun (K : PySem.W.Frag) : Addr × Own := (tRoun K, Own.tab qRoun)
/-- the tables of the defs that make lambdas are empty code tables at the law's entry -/
abbrev TB2 (base : Heap) (mg : Str → Option Value) (K : PySem.W.Frag) : Prop := ∀ p ∈ tf, LamX.TabB base mg (He.cT K p).1 (He.cT K p).2
/-! ### their order -/
def kRule (r : Row) : Tri Int Sg Sg := ⟨r.c, r.a, r.b⟩
def kRank (told : List Sg) (r : Row) : Tri (Tri Int Int Sg) Int Sg := ⟨prank told r.a, r.c, r.b⟩
def kRoun (told : List Sg) (last : Sg) (r : Row) : Tri (Int × Tri Int Int Sg) Int Sg := ⟨rrank told r.a last, r.c, r.b⟩
def dRule (r : Row) : PyData := .tuple [.int r.c, .str r.a.s, .str r.b.s]
def dRank (told : List Sg) (r : Row) : PyData := .tuple [d3 (prank told r.a), .int r.c, .str r.b.s]
def dRoun (told : List Sg) (last : Sg) (r : Row) : PyData := .tuple [.tuple [.int (rrank told r.a last).1, d3 (rrank told r.a last).2], .int r.c, .str r.b.s]
def keyOf : RV → Sg → Row → PyData
  | .rule, _ => dRule
  | .soonest, _ => dRule
  | .ranked t, _ => dRank t
  | .rounds t, last => dRoun t last
def ordered (x : RV) (last : Sg) (ws : List Row) : List Row := ws.mergeSort (PySem.W.dataLe false (keyOf x last))
def a_ord (K : PySem.W.Frag) (ok : RV → Prop) (os0 : Os) : List (Slot K) → Os → (V → Os → Prop) → Prop := fun xs os P => ∃ (x : RV) (ws : List Row) (last : Sg), xs = [sv x, sv ws, sv last] ∧ os = os0 ∧ (ok x ∧ ws.length ≤ 1000000) ∧ ∀ l, P (V.ref l) (os0 ++ [(l, Own.lst K (ordered x last ws))])
theorem sc_order : FnScope ["self", "waiting", "last"] ["self", "waiting", "last"] (defScope (clsS 4 0)) := ⟨rfl, rfl, rfl, by decide +kernel, rfl, by decide +kernel, by decide +kernel⟩
theorem ok_orderRule (E : FX K mg) (hPr : ThisP P) : Met CX0 P w K mg base (cRule K) "order" 3 ["self", "waiting", "last"] (SpW K (a_ord K (fun x => x = .rule) [])) := by
  refine E.met 16 31 30 (C := "Rule") (m := "order") (q := "Rule.order") (st := (clsS 4 0)) rfl rfl rfl (fun _ _ _ _ _ _ us hl => match us, hl with | [_, _, _], _ => rfl) fun f fd F => okWD F sc_order (fun xs os P' h => ?_) (fun cdv Ar outer s0 H0 E0 hr xs os P' h => ?_)
  · obtain ⟨_, _, _, rfl, _⟩ := h; rfl
  · obtain ⟨x, ws, last, rfl, rfl, ⟨rfl, hz⟩, hP⟩ := h
    refine ⟨_, (pss_one (ps_ret (pe_sortF (ok_by_ready E hPr) (hr.mono (by decide)) rfl rfl (E.free 22) (pv 1)))) , fun g σ Q s fin => ?_⟩
    refine st_retNW s (enw_sortF (key := kRule) (ev_var rfl) (fun r _ => ⟨r, rfl, rfl⟩) (PySem.W.AllAlike.of fun _ _ => rfl) (PySem.W.Sortable.tuples fun _ => ⟨_, _, rfl⟩) hz) fun ys hys l g h s => ?_
    subst hys
    exact fin (V.ref l) (V.ref l) g h _ _ _ _ (hP l) (fun p hp => hp) s (by simp) rfl
theorem sc_orderS : FnScope ["self", "waiting", "last"] ["self", "waiting", "last"] (defScope (clsS 5 0)) := ⟨rfl, rfl, rfl, by decide +kernel, rfl, by decide +kernel, by decide +kernel⟩
theorem ok_orderSoon (E : FX K mg) (hPr : ThisP P) : Met CX0 P w K mg base (cSoon K) "order" 3 ["self", "waiting", "last"] (SpW K (a_ord K (fun x => x = .soonest) [])) := by
  refine E.met 17 33 32 (C := "Soonest") (m := "order") (q := "Soonest.order") (st := (clsS 5 0)) rfl rfl rfl (fun _ _ _ _ _ _ us hl => match us, hl with | [_, _, _], _ => rfl) fun f fd F => okWD F sc_orderS (fun xs os P' h => ?_) (fun cdv Ar outer s0 H0 E0 hr xs os P' h => ?_)
  · obtain ⟨_, _, _, rfl, _⟩ := h; rfl
  · obtain ⟨x, ws, last, rfl, rfl, ⟨rfl, hz⟩, hP⟩ := h
    refine ⟨_, (pss_one (ps_ret (pe_sortF (ok_by_ready E hPr) (hr.mono (by decide)) rfl rfl (E.free 22) (pv 1)))) , fun g σ Q s fin => ?_⟩
    refine st_retNW s (enw_sortF (key := kRule) (ev_var rfl) (fun r _ => ⟨r, rfl, rfl⟩) (PySem.W.AllAlike.of fun _ _ => rfl) (PySem.W.Sortable.tuples fun _ => ⟨_, _, rfl⟩) hz) fun ys hys l g h s => ?_
    subst hys
    exact fin (V.ref l) (V.ref l) g h _ _ _ _ (hP l) (fun p hp => hp) s (by simp) rfl
theorem sc_orderR : FnScope ["self", "waiting", "last", "told"] ["self", "waiting", "last"] (defScope (clsS 6 1)) := ⟨rfl, rfl, rfl, by decide +kernel, rfl, by decide +kernel, by decide +kernel⟩
theorem ok_orderRank (E : FX K mg) (hPr : ThisP P) (hT : TB2 base mg K) : Met CX0 P w K mg base (cRank K) "order" 4 ["self", "waiting", "last"] (SpW K (a_ord K (fun x => ∃ t, x = .ranked t) [oRank K])) := by
  refine E.metC 19 36 34 (C := "Ranked") (m := "order") (q := "Ranked.order") (st := (clsS 6 1)) rfl rfl rfl (fun _ _ _ _ _ _ us hl => match us, hl with | [_, _, _], _ => rfl) fun fd F => okWC (N := ["self", "waiting", "last", "told"]) F sc_orderR (fun xs os P' h => ?_) (fun Ar outer s0 H0 E0 hr xs os P' h => ?_)
  · obtain ⟨_, _, _, rfl, _⟩ := h; rfl
  · obtain ⟨x, ws, last, rfl, rfl, ⟨⟨told, rfl⟩, hz⟩, hP⟩ := h
    have TB := hT ("Ranked", some "order") (by simp [tf])
    refine ⟨_, (pss_cons (ps_set (i := 3) sc_orderR.nd rfl (.inr rfl) (pe_fld (pv 0) rfl))
    (pss_one (ps_ret (pe_sortL (k := 1) (N := ["row", "told"]) (fr := ["told"]) (ix := [3]) TB rfl (nscope_by (by decide +kernel)) (cap_by (N := ["self", "waiting", "last", "told"]) (sc := defScope (clsS 6 1)) rfl rfl (by decide +kernel)) (hr.mono (by decide)) rfl (E.free 22) (pv 1) rfl (fun _ _ _ _ _ => rfl) fun _ _ _ _ _ _ hr => (pe_tup (pa_cons (pe_c (ok_plan_rank E hPr) (hr.mono (by decide)) rfl (pa_cons (pv 1) (pa_cons (pe_ix (ix_tupK K) (pv 0) pe_int (fun _ _ => rfl)) pa_nil))) (pa_cons (pe_ix (ix_tupK K) (pv 0) pe_int (fun _ _ => rfl)) (pa_cons (pe_ix (ix_tupK K) (pv 0) pe_int (fun _ _ => rfl)) pa_nil)))))))) , fun g σ Q s fin => ?_⟩
    have cC := E.cls 34 (x := "Ranked") rfl
    refine st_set s (ev_fld (y := TupF.mk told) (ev_var rfl) (rv_ins (x := .ranked told)) cC (E.noat 37 rfl) rfl) (fun v g h s => ?_)
    refine st_retNW s (enw_sortL (m := 0) (key := kRank told) rfl (ev_var rfl) (fun r _ => ev_tri (ev_call (z := prank told r.a) (ea_cons (ev_var (x := TupF.mk told) rfl) (ea_cons (ev_ixA (ev_var rfl)) ea_nil)) ⟨TupF.mk told, r.a, rfl, rfl⟩) (ev_ixC (ev_var rfl)) (ev_ixB (ev_var rfl))) (PySem.W.AllAlike.of fun _ _ => rfl) (PySem.W.Sortable.tuples fun _ => ⟨_, _, rfl⟩) hz) fun ys hys l g h s => ?_
    subst hys
    exact fin (V.ref l) (V.ref l) g h _ _ _ _ (hP l) (fun p hp => hp) s (by exact s.nd) rfl
theorem sc_orderO : FnScope ["self", "waiting", "last", "told"] ["self", "waiting", "last"] (defScope (clsS 7 1)) := ⟨rfl, rfl, rfl, by decide +kernel, rfl, by decide +kernel, by decide +kernel⟩
theorem ok_orderRoun (E : FX K mg) (hPr : ThisP P) (hT : TB2 base mg K) : Met CX0 P w K mg base (cRoun K) "order" 5 ["self", "waiting", "last"] (SpW K (a_ord K (fun x => ∃ t, x = .rounds t) [oRoun K])) := by
  refine E.metC 21 40 38 (C := "Rounds") (m := "order") (q := "Rounds.order") (st := (clsS 7 1)) rfl rfl rfl (fun _ _ _ _ _ _ us hl => match us, hl with | [_, _, _], _ => rfl) fun fd F => okWC (N := ["self", "waiting", "last", "told"]) F sc_orderO (fun xs os P' h => ?_) (fun Ar outer s0 H0 E0 hr xs os P' h => ?_)
  · obtain ⟨_, _, _, rfl, _⟩ := h; rfl
  · obtain ⟨x, ws, last, rfl, rfl, ⟨⟨told, rfl⟩, hz⟩, hP⟩ := h
    have TB := hT ("Rounds", some "order") (by simp [tf])
    refine ⟨_, (pss_cons (ps_set (i := 3) sc_orderO.nd rfl (.inr rfl) (pe_fld (pv 0) rfl))
    (pss_one (ps_ret (pe_sortL (k := 2) (N := ["row", "last", "told"]) (fr := ["last", "told"]) (ix := [2, 3]) TB rfl (nscope_by (by decide +kernel)) (cap_by (N := ["self", "waiting", "last", "told"]) (sc := defScope (clsS 7 1)) rfl rfl (by decide +kernel)) (hr.mono (by decide)) rfl (E.free 22) (pv 1) rfl (fun _ _ _ _ _ => rfl) fun _ _ _ _ _ _ hr => (pe_tup (pa_cons (pe_c (ok_round_rank E hPr) (hr.mono (by decide)) rfl (pa_cons (pv 2) (pa_cons (pe_ix (ix_tupK K) (pv 0) pe_int (fun _ _ => rfl)) (pa_cons (pv 1) pa_nil)))) (pa_cons (pe_ix (ix_tupK K) (pv 0) pe_int (fun _ _ => rfl)) (pa_cons (pe_ix (ix_tupK K) (pv 0) pe_int (fun _ _ => rfl)) pa_nil)))))))) , fun g σ Q s fin => ?_⟩
    have cC := E.cls 38 (x := "Rounds") rfl
    refine st_set s (ev_fld (y := TupF.mk told) (ev_var rfl) (rv_ins (x := .rounds told)) cC (E.noat 41 rfl) rfl) (fun v g h s => ?_)
    refine st_retNW s (enw_sortL (m := 0) (key := kRoun told last) rfl (ev_var rfl) (fun r _ => ev_tri (ev_call (z := rrank told r.a last) (ea_cons (ev_var (x := TupF.mk told) rfl) (ea_cons (ev_ixA (ev_var rfl)) (ea_cons (ev_var (x := last) rfl) ea_nil))) ⟨TupF.mk told, r.a, last, rfl, rfl⟩) (ev_ixC (ev_var rfl)) (ev_ixB (ev_var rfl))) (PySem.W.AllAlike.of fun _ _ => rfl) (PySem.W.Sortable.tuples fun _ => ⟨_, _, rfl⟩) hz) fun ys hys l g h s => ?_
    subst hys
    exact fin (V.ref l) (V.ref l) g h _ _ _ _ (hP l) (fun p hp => hp) s (by exact s.nd) rfl
/-! ### their makers -/
structure Rk where
  l : List Sg
structure Ro where
  l : List Sg
instance instRk : Py K Rk := insPy (cRank K) fun x => toldFs K x.l
instance instRo : Py K Ro := insPy (cRoun K) fun x => toldFs K x.l
def a_told (K : PySem.W.Frag) (C : Addr) : List (Slot K) → Os → (Unit → Os → Prop) → (Addr → List (Str × Slot K) → Prop) → Prop := fun xs os P PE => ∃ (l dx : Addr) (t : List Sg), xs = [sv (V.ref l), sv (TupF.mk t)] ∧ os = [(l, Own.ins K C dx [])] ∧ P () [(l, Own.ins K C dx (toldFs K t))]
theorem sc_initR : FnScope ["self", "plans"] ["self", "plans"] (defScope (clsS 6 0)) := ⟨rfl, rfl, rfl, by decide +kernel, rfl, by decide +kernel, by decide +kernel⟩
theorem mk_Ranked (E : FX K mg) (hPr : ThisP P) : MakR P w K mg base "Ranked" (cRank K) 2 (SpX K (aStXF 1 Sg (a_told K (cRank K)))) := by
  refine E.makR 18 35 5 (C := "Ranked") (q := "Ranked.__init__") (st := (clsS 6 0)) rfl rfl rfl fun f fd F => (funD_starF (ps := ["self"]) (pv := "plans") (k := 1) (sp := SpX K (a_told K (cRank K))) F sc_initR cxUpN (bindStar1 (fun _ _ _ _ _ _ _ => rfl) (fun _ _ _ _ _ _ _ _ _ => rfl)) (body_X fun cdv Ar outer s0 H0 E0 hr xs os P' PE h => ?_)).imp stXF_of
  · obtain ⟨l, dx, t, rfl, rfl, hP⟩ := h
    refine ⟨_, (pss_one (ps_fld (pv 0) (pv 1) rfl)) , fun g σ Q s fin finE => ?_⟩
    have cC := E.cls 34 (x := "Ranked") rfl
    refine st_fldO (m := 0) s (ev_var (x := TupF.mk t) rfl) rfl rfl cC (E.noat 37 rfl) (Nat.zero_lt_succ _) (fun g h s => ?_)
    exact fin V.non () g h _ _ _ _ hP (fun p hp => hp) s (by simp) rfl
theorem sc_initO : FnScope ["self", "plans"] ["self", "plans"] (defScope (clsS 7 0)) := ⟨rfl, rfl, rfl, by decide +kernel, rfl, by decide +kernel, by decide +kernel⟩
theorem mk_Rounds (E : FX K mg) (hPr : ThisP P) : MakR P w K mg base "Rounds" (cRoun K) 2 (SpX K (aStXF 1 Sg (a_told K (cRoun K)))) := by
  refine E.makR 20 39 6 (C := "Rounds") (q := "Rounds.__init__") (st := (clsS 7 0)) rfl rfl rfl fun f fd F => (funD_starF (ps := ["self"]) (pv := "plans") (k := 1) (sp := SpX K (a_told K (cRoun K))) F sc_initO cxUpN (bindStar1 (fun _ _ _ _ _ _ _ => rfl) (fun _ _ _ _ _ _ _ _ _ => rfl)) (body_X fun cdv Ar outer s0 H0 E0 hr xs os P' PE h => ?_)).imp stXF_of
  · obtain ⟨l, dx, t, rfl, rfl, hP⟩ := h
    refine ⟨_, (pss_one (ps_fld (pv 0) (pv 1) rfl)) , fun g σ Q s fin finE => ?_⟩
    have cC := E.cls 38 (x := "Rounds") rfl
    refine st_fldO (m := 0) s (ev_var (x := TupF.mk t) rfl) rfl rfl cC (E.noat 41 rfl) (Nat.zero_lt_succ _) (fun g h s => ?_)
    exact fin V.non () g h _ _ _ _ hP (fun p hp => hp) s (by simp) rfl
theorem isRule {X : Cx} (E : FX K X.mg) (h : X.K = K := by rfl) : CallR X (.builtin "isinstance") (fun xs H Q => ∃ a C dx fs, xs = [.ref a, .ref (cRule K)] ∧ C ∈ [cRule K, cSoon K, cRank K, cRoun K] ∧ H a = some (.ins C dx fs) ∧ Q (.bl true) H) := by
  subst h
  refine call_isS fun C hC => ?_
  simp only [List.mem_cons, List.not_mem_nil, or_false] at hC
  rcases hC with rfl | rfl | rfl | rfl
  · exact insSB_ok (ck E 1)
  · exact insSB_ok (ck E 3)
  · exact insSB_ok (ck E 4)
  · exact insSB_ok (ck E 6)
theorem ev_isRule {env : Lw.Env K} {os : Os} {ta : TE} {x : RV} (ha : Ev ta env os x) : Ev (tCB (fun xs H Q => ∃ a C dx fs, xs = [V.ref a, V.ref (cRule K)] ∧ C ∈ [cRule K, cSoon K, cRank K, cRoun K] ∧ H a = some (.ins C dx fs) ∧ Q (.bl true) H) (tCons ta (tCons (tC (.ref (cRule K))) tNil))) env os true := fun {b g h σ Q} s q =>
  ha s fun v g1 h1 l1 r1 => by
    obtain ⟨a, dx, ws, rfl, h2, _⟩ := r1
    exact ⟨a, x.cls K, dx, ws, rfl, by cases x <;> simp [RV.cls], l1.gh _ _ h2, q _ _ _ l1 rfl⟩
end K22
namespace K22
open PySem PySem.Spec PyProof.Rows L2 Lw ClX
variable {P : Program} {w : World} {K : PySem.W.Frag} {mg : Str → Option Value} {base : Heap}
/-! ### the stream -/
structure StrP where
  cells : List Int
  at_ : Int
  left : Int
  more : Int
  seed : Int
  turn : Int
def strS (p : StrP) : List (Key × Slot K) := [(.inr "cells", sv p.cells), (.inr "at", sv p.at_), (.inr "left", sv p.left), (.inr "more", sv p.more), (.inr "seed", sv p.seed), (.inr "turn", sv p.turn)]
def Stream (K : PySem.W.Frag) : Own := Own.ex (fun p : StrP => 0 ≤ p.at_) (fun p => Own.dic (strS (K := K) p))
theorem g_cells {p : StrP} : getS (strS (K := K) p) (.inr "cells") = some (sv p.cells) := by kernel_rfl
theorem g_at {p : StrP} : getS (strS (K := K) p) (.inr "at") = some (sv p.at_) := by kernel_rfl
theorem g_left {p : StrP} : getS (strS (K := K) p) (.inr "left") = some (sv p.left) := by kernel_rfl
theorem g_more {p : StrP} : getS (strS (K := K) p) (.inr "more") = some (sv p.more) := by kernel_rfl
theorem g_seed {p : StrP} : getS (strS (K := K) p) (.inr "seed") = some (sv p.seed) := by kernel_rfl
theorem g_turn {p : StrP} : getS (strS (K := K) p) (.inr "turn") = some (sv p.turn) := by kernel_rfl
theorem p_at {p : StrP} {x : Int} : putS (strS (K := K) p) (.inr "at") (sv x) = strS { p with at_ := x } := by kernel_rfl
theorem p_left {p : StrP} {x : Int} : putS (strS (K := K) p) (.inr "left") (sv x) = strS { p with left := x } := by kernel_rfl
theorem p_more {p : StrP} {x : Int} : putS (strS (K := K) p) (.inr "more") (sv x) = strS { p with more := x } := by kernel_rfl
theorem p_seed {p : StrP} {x : Int} : putS (strS (K := K) p) (.inr "seed") (sv x) = strS { p with seed := x } := by kernel_rfl
theorem p_turn {p : StrP} {x : Int} : putS (strS (K := K) p) (.inr "turn") (sv x) = strS { p with turn := x } := by kernel_rfl
theorem str_len {p : StrP} : (strS (K := K) p).length < 1000 := (by decide : 6 < 1000)
def a_stream (K : PySem.W.Frag) : List (Slot K) → Os → (V → Os → Prop) → Prop := fun xs os P => ∃ script : List Int, xs = [sv script] ∧ os = [] ∧ script.length ≤ 1000 ∧ ∀ l, P (V.ref l) [(l, Stream K)]
theorem m_str {c : List Int} : mergeS (K := K) [] [(.inr "cells", sv c), (.inr "at", sv (0 : Int)), (.inr "left", sv (0 : Int)), (.inr "more", sv (0 : Int)), (.inr "seed", sv (20011 : Int)), (.inr "turn", sv (0 : Int))] = strS ⟨c, 0, 0, 0, 20011, 0⟩ := by kernel_rfl
theorem sc_law_stream : FnScope ["script", "cells", "cell"] ["script"] (defScope (topS 9)) := ⟨rfl, rfl, rfl, by decide +kernel, rfl, by decide +kernel, by decide +kernel⟩
theorem ok_law_stream (E : FX K mg) (hPr : ThisP P) : Cal P w K mg base "_law_stream" 1 ["script"] (SpW K (a_stream K)) := by
  refine E.cal 3 7 (st := (topS 9)) rfl rfl (fun _ _ _ _ _ _ us hl => match us, hl with | [_], _ => rfl) fun f fd F => okWD F sc_law_stream (fun xs os P' h => ?_) (fun cdv Ar outer s0 H0 E0 hr xs os P' h => ?_)
  · obtain ⟨_, rfl, _⟩ := h; rfl
  · obtain ⟨script, rfl, rfl, hz, hP⟩ := h
    refine ⟨_, (pss_cons (ps_set (i := 1) sc_law_stream.nd rfl (.inl rfl) (pe_lst pa_nil))
    (pss_cons (ps_for PassesOwn.never rfl (pi_listK K (pe_slice (sl_listK K) (pv 0) po_none (po_some pe_int))) (pg_name (i := 2) sc_law_stream.nd rfl (.inl rfl))
      (pss_one (ps_expr (pe_bm PySem.F.plainAttrs_list PySem.F.slot_list_append PySem.F.type_list_append mt_append (pv 1) (pa_cons (pv 2) pa_nil)))))
    (pss_one (ps_ret (pe_disp (pps_cons pe_str (pv 1) (pps_cons pe_str pe_int (pps_cons pe_str pe_int (pps_cons pe_str pe_int (pps_cons pe_str pe_int (pps_cons pe_str pe_int pps_nil)))))) rfl rfl (by decide) (by decide)))))) , fun g σ Q s fin => ?_⟩
    refine st_setN s (en_lst (xs := ([] : List Int)) el_nil (by decide)) (fun l g h s => ?_)
    try dsimp only
    have hcl : (cut script none (some 63)).length ≤ script.length := by unfold cut; rw [List.length_take, List.length_drop]; omega
    refine st_for_list tgt_name s (ev_slL (ev_var rfl) eo_none (eo_some ev_int)) (fun n e o => ∃ s2 : Slot K, e = [sv script, sv (V.ref l), s2] ∧ o = [(l, Own.lst K ((cut script none (some 63)).take n))]) ⟨_, rfl, rfl⟩ (fun n x hx c hls e o g h σ N hI back s hN => ?_) (fun e o g h σ hI s => ?_)
    · obtain ⟨s2, rfl, rfl⟩ := hI
      refine st_append (m := 0) s rfl rfl (by rw [List.length_take, sizeLine_eq]; omega) (ev_var rfl) (fun g h s => ?_)
      refine hN _ _ _ _ _ ⟨_, rfl, ?_⟩ s
      rw [List.take_add_one, hx]; rfl
    · obtain ⟨s2, rfl, rfl⟩ := hI
      try dsimp only
      obtain ⟨g, s⟩ := s.freezeN (i := 1) (m := 0) rfl rfl (fun z => nomatch z)
      refine st_retD s (ep_cons (ev_var (x := (cut script none (some 63)).take (cut script none (some 63)).length) rfl) (ep_cons ev_int (ep_cons ev_int (ep_cons ev_int (ep_cons ev_int (ep_cons ev_int ep_nil)))))) (by simp) (fun l g h s => ?_)
      rw [m_str] at s
      have s := s.closed (m := 0) (ok := fun p : StrP => 0 ≤ p.at_) (W := fun p => Own.dic (strS (K := K) p)) rfl (Int.le_refl _)
      exact fin (V.ref l) (V.ref l) g h _ _ _ _ (hP l) (fun p hp => hp) s (by simp) rfl
theorem sc_law_draw : FnScope ["stream", "many", "digit", "cell", "mixed"] ["stream", "many"] (defScope (topS 10)) := ⟨rfl, rfl, rfl, by decide +kernel, rfl, by decide +kernel, by decide +kernel⟩
theorem ok_law_draw (E : FX K mg) (hPr : ThisP P) : Cal P w K mg base "_law_draw" 1 ["stream", "many"] (SpW K (a_take K (Stream K) 1000000)) := by
  refine E.cal 4 8 (st := (topS 10)) rfl rfl (fun _ _ _ _ _ _ us hl => match us, hl with | [_, _], _ => rfl) fun f fd F => okWD F sc_law_draw (fun xs os P' h => ?_) (fun cdv Ar outer s0 H0 E0 hr xs os P' h => ?_)
  · obtain ⟨_, _, rfl, _⟩ := h; rfl
  · obtain ⟨l, size, rfl, rfl, ⟨hs0, hs1⟩, hP⟩ := h
    refine ⟨_, (pss_cons (ps_if (PW.pt (pw_and (pt_cmpR op_gt (pe_dget (hu_of hr) (pv 0) pe_str (fun _ _ => rfl)) pe_int (nomark _)) (pw_and1 (pt_cmpR op_gt (pe_dget (hu_of hr) (pv 0) pe_str (fun _ _ => rfl)) pe_int (nomark _))))) (pss_cons (ps_set (i := 2) sc_law_draw.nd rfl (.inl rfl) (pe_op op_mod (pe_callTy call_int1 (by rfl) (E.free 25) (by decide +kernel) (pa_cons (pe_dget (hu_of hr) (pv 0) pe_str (fun _ _ => rfl)) pa_nil)) (pv 1)))
    (pss_cons (ps_dput (hu_of hr) (pv 0) pe_str (pe_op op_fdiv (pe_dget (hu_of hr) (pv 0) pe_str (fun _ _ => rfl)) (pv 1)) rfl)
    (pss_cons (ps_dput (hu_of hr) (pv 0) pe_str (pe_op op_sub (pe_dget (hu_of hr) (pv 0) pe_str (fun _ _ => rfl)) pe_int) rfl)
    (pss_one (ps_ret (pv 2)))))) pss_nil)
    (pss_cons (ps_set (i := 3) sc_law_draw.nd rfl (.inl rfl) pe_int)
    (pss_cons (ps_if (pt_cmpR op_lt (pe_dget (hu_of hr) (pv 0) pe_str (fun _ _ => rfl)) (pe_callB (len_seqK K) (by rfl) (E.free 23) (by decide +kernel) (pa_cons (pe_dget (hu_of hr) (pv 0) pe_str (fun _ _ => rfl)) pa_nil)) (nomark _)) (pss_cons (ps_set (i := 3) sc_law_draw.nd rfl (.inl rfl) (pe_ix (ix_listK K) (pe_dget (hu_of hr) (pv 0) pe_str (fun _ _ => rfl)) (pe_dget (hu_of hr) (pv 0) pe_str (fun _ _ => rfl)) (fun _ _ => rfl)))
    (pss_one (ps_dput (hu_of hr) (pv 0) pe_str (pe_op op_add (pe_dget (hu_of hr) (pv 0) pe_str (fun _ _ => rfl)) pe_int) rfl))) pss_nil)
    (pss_cons (ps_if (pt_cmpR op_ge (pe_callB call_abs (by rfl) (E.free 24) (by decide +kernel) (pa_cons (pv 3) pa_nil)) (pe_op op_pow pe_int pe_int) (nomark _)) (pss_cons (ps_dput (hu_of hr) (pv 0) pe_str (pe_op op_fdiv (pe_callB call_abs (by rfl) (E.free 24) (by decide +kernel) (pa_cons (pv 3) pa_nil)) (pv 1)) rfl)
    (pss_cons (ps_dput (hu_of hr) (pv 0) pe_str pe_int rfl)
    (pss_one (ps_ret (pe_op op_mod (pe_callTy call_int1 (by rfl) (E.free 25) (by decide +kernel) (pa_cons (pe_callB call_abs (by rfl) (E.free 24) (by decide +kernel) (pa_cons (pv 3) pa_nil)) pa_nil)) (pv 1)))))) pss_nil)
    (pss_cons (ps_dput (hu_of hr) (pv 0) pe_str (pe_op op_add (pe_dget (hu_of hr) (pv 0) pe_str (fun _ _ => rfl)) pe_int) rfl)
    (pss_cons (ps_set (i := 4) sc_law_draw.nd rfl (.inl rfl) (pe_op op_mod (pe_callTy call_int1 (by rfl) (E.free 25) (by decide +kernel) (pa_cons (pe_op op_add (pe_op op_add (pe_op op_mul (pe_dget (hu_of hr) (pv 0) pe_str (fun _ _ => rfl)) pe_int) (pe_op op_mul (pv 3) pe_int)) (pe_op op_mul (pe_dget (hu_of hr) (pv 0) pe_str (fun _ _ => rfl)) pe_int)) pa_nil)) pe_int))
    (pss_cons (ps_dput (hu_of hr) (pv 0) pe_str (pv 4) rfl)
    (pss_one (ps_ret (pe_op op_mod (pe_op op_fdiv (pe_op op_mod (pe_callTy call_int1 (by rfl) (E.free 25) (by decide +kernel) (pa_cons (pe_op op_add (pe_op op_mul (pv 4) pe_int) pe_int) pa_nil)) pe_int) pe_int) (pv 1))))))))))) , fun g σ Q s fin => ?_⟩
    obtain ⟨p, hp, s⟩ := s.opened (m := 0) rfl
    have fin2 : ∀ v (z : Int) g' h' σ' env' (p : StrP), 0 ≤ p.at_ → 0 ≤ z → z < size → S0 ⟨[(l, Stream K)].map (·.1), g, H0⟩ g' h' σ' (env' : Lw.Env K) [(l, Own.dic (strS (K := K) p))] → v = V.int z → Q v h' := fun v z g' h' σ' env' p hp h0 h1 s r =>
      fin v z g' h' σ' env' _ _ (hP z h0 h1) (fun q hq => hq) (s.closed (m := 0) (ok := fun p : StrP => 0 ≤ p.at_) (W := fun p => Own.dic (strS (K := K) p)) rfl hp) (by simp) r
    have hz : (0 : Int) < size ∧ size < 1073741824 := ⟨hs0, by omega⟩
    refine st_if s (et_and (et_test (ev_ib (ev_dgetO (m := 0) rfl rfl g_left) ev_int)) fun _ => (et_test (ev_ib (ev_dgetO (m := 0) rfl rfl g_more) ev_int))) (fun hc g h s => ?_) (fun hc g h s => ?_)
    · -- digit = int(stream['more']) % many
      refine st_set s (ev_iC (ev_intI (ev_dgetO (m := 0) rfl rfl g_more)) (ev_var rfl) hs0) (fun v g h s => ?_)
      refine st_dputO (m := 0) s (ev_iC (ev_dgetO (m := 0) rfl rfl g_more) (ev_var rfl) hz) rfl rfl str_len (fun g h s => ?_)
      rw [p_more] at s
      refine st_dputO (m := 0) s (ev_i2 (ev_dgetO (m := 0) rfl rfl g_left) ev_int) rfl rfl str_len (fun g h s => ?_)
      rw [p_left] at s
      exact st_ret s (ev_var rfl) fun v g h s r => fin2 v _ g h _ _ _ (by exact hp) (Int.emod_nonneg _ (by omega)) (Int.emod_lt_of_pos _ hs0) s r
    · dsimp only [tNext]
      refine st_set s ev_int (fun v g h s => ?_)
      try dsimp only
      refine st_if_cut (fun e o => ∃ (p : StrP) (c : Int) (s2 s4 : Slot K), 0 ≤ p.at_ ∧ e = [sv (V.ref l), sv size, s2, sv c, s4] ∧ o = [(l, Own.dic (strS (K := K) p))]) s (et_test (ev_ib (ev_dgetO (m := 0) rfl rfl g_at) (ev_lenL (ev_dgetO (m := 0) rfl rfl g_cells)))) (fun e o g h σ hJ s => ?_) (fun hc g h N s hN => ?_) (fun hc g h N s hN => ?_)
      · obtain ⟨p, c, s2, s4, hp, rfl, rfl⟩ := hJ
        try dsimp only
        refine st_if s (et_test (ev_ib (ev_abs (ev_var rfl)) (ev_iC ev_int ev_int (by exact ⟨by decide, by decide, by decide⟩)))) (fun hc g h s => ?_) (fun hc g h s => ?_)
        · refine st_dputO (m := 0) s (ev_iC (ev_abs (ev_var rfl)) (ev_var rfl) hz) rfl rfl str_len (fun g h s => ?_)
          rw [p_more] at s
          refine st_dputO (m := 0) s ev_int rfl rfl str_len (fun g h s => ?_)
          rw [p_left] at s
          exact st_ret s (ev_iC (ev_intI (ev_abs (ev_var rfl))) (ev_var rfl) hs0) fun v g h s r => fin2 v _ g h _ _ _ (by exact hp) (Int.emod_nonneg _ (by omega)) (Int.emod_lt_of_pos _ hs0) s r
        · dsimp only [tNext]
          refine st_dputO (m := 0) s (ev_i2 (ev_dgetO (m := 0) rfl rfl g_turn) ev_int) rfl rfl str_len (fun g h s => ?_)
          rw [p_turn] at s
          refine st_setQ (fun x : Int => 0 ≤ x ∧ x < 2147483647) s (ev_iC (ev_intI (ev_i2 (ev_i2 (ev_iC (ev_dgetO (m := 0) rfl rfl g_seed) ev_int (.inr (by decide))) (ev_iC (ev_var rfl) ev_int (.inr (by decide)))) (ev_iC (ev_dgetO (m := 0) rfl rfl g_turn) ev_int (.inr (by decide))))) ev_int (by decide)) (mod_bd (by decide)) (fun x hx v g h s => ?_)
          try dsimp only
          refine st_dputO (m := 0) s (ev_var rfl) rfl rfl str_len (fun g h s => ?_)
          rw [p_seed] at s
          refine st_ret s (ev_iC (ev_iC (ev_iC (ev_intI (ev_i2 (ev_iC (ev_var rfl) ev_int (.inr (by decide))) ev_int)) ev_int (by decide)) ev_int (by exact ⟨by decide, by decide⟩)) (ev_var rfl) (by exact hs0)) ?_
          exact fun v g h s r => fin2 v _ g h _ _ _ (by exact hp) (Int.emod_nonneg _ (by omega)) (Int.emod_lt_of_pos _ hs0) s r
      · have hc := of_decide_eq_true hc
        refine st_set s (ev_ixLD 0 (ev_dgetO (m := 0) rfl rfl g_cells) (ev_dgetO (m := 0) rfl rfl g_at) hp hc) (fun v g h s => ?_)
        try dsimp only
        refine st_dputO (m := 0) s (ev_i2 (ev_dgetO (m := 0) rfl rfl g_at) ev_int) rfl rfl str_len (fun g h s => ?_)
        rw [p_at] at s
        have hp2 : 0 ≤ p.at_ + 1 := by omega
        exact hN _ _ _ _ _ ⟨_, _, _, _, hp2, rfl, rfl⟩ s
      · exact hN _ _ _ _ _ ⟨p, _, _, _, hp, rfl, rfl⟩ s
end K22
namespace K22
open PySem PySem.Spec PyProof.Rows L2 Lw ClX
variable {P : Program} {w : World} {K : PySem.W.Frag} {mg : Str → Option Value} {base : Heap}
/-! ### names -/
def gN (x : Sg) : Prop := 1 ≤ x.l.length ∧ x.l.length ≤ 12 ∧ ∀ c ∈ x.l, c < 1114112
abbrev ltrs : List Nat := [97, 98, 99, 100, 101, 102, 103, 104, 105, 106, 107, 108, 109, 110, 111, 112, 113, 114, 115, 116, 117, 118, 119, 120, 121, 122]
abbrev dgts : List Nat := [48, 49, 50, 51, 52, 53, 54, 55, 56, 57]
section
variable {env : Lw.Env K} {os : Os} {ta tb : TE}
theorem ix_sign {u : List Nat} {n y : Int} (hu : ∀ c ∈ u, c < 1114112) (hn : n ≤ u.length) (h0 : 0 ≤ y) (h1 : y < n) : atI u y = some (u.getD y.toNat 0) ∧ u.getD y.toNat 0 < 1114112 := by
  have hl : y.toNat < u.length := by omega
  have e : u[y.toNat]? = some (u.getD y.toNat 0) := by
    rw [List.getD_eq_getElem?_getD, List.getElem?_eq_getElem hl]; rfl
  exact ⟨atI_int h0 e, hu _ (List.mem_of_getElem? e)⟩
/-- one sign of a text, drawn -/
theorem ew_sign {u : List Nat} {n : Int} (hu : ∀ c ∈ u, c < 1114112) (hn : n ≤ u.length) (hl : u.length ≤ 1000) (ha : Ev ta env os (Sg.mk u)) (hb : EvW tb env os (fun r => 0 ≤ r ∧ r < n)) : EvW (tOp rIxS ta tb) env os (fun z : Sg => ∃ c, z = ⟨[c]⟩ ∧ c < 1114112) :=
  EvW.imp (ew_op (f := fun (x : Sg) (y : Int) => Sg.mk [x.l.getD y.toNat 0]) (Ev.w ha) hb fun x y hx hy => by
    subst hx
    exact ev_ixG (ev_var rfl) (ev_var rfl) (Nat.le_trans hl (by decide)) (ix_sign hu hn hy.1 hy.2).1) fun z hz => by
    obtain ⟨x, y, rfl, hy, rfl⟩ := hz
    exact ⟨_, rfl, (ix_sign hu hn hy.1 hy.2).2⟩
end
theorem ltrs_ok : ∀ c ∈ ltrs, c < 1114112 := by decide
theorem signs_ok : ∀ c ∈ ltrs ++ dgts, c < 1114112 := by decide
theorem sc_law_name : FnScope ["stream", "taken", "base", "letters", "signs", "way", "text", "k", "at", "first", "name"] ["stream", "taken", "base"] (defScope (topS 11)) := ⟨rfl, rfl, rfl, by decide +kernel, rfl, by decide +kernel, by decide +kernel⟩
def a_name (K : PySem.W.Frag) : List (Slot K) → Os → (Sg → Os → Prop) → Prop := fun xs os P => ∃ (ls lt : Addr) (taken : List Sg) (b : Sg), xs = [sv (V.ref ls), sv (V.ref lt), sv b] ∧ os = [(ls, Stream K), (lt, Own.lst K taken)] ∧ (b = ⟨[]⟩ ∨ gN b) ∧ ∀ z, gN z → P z os
theorem ok_law_name (E : FX K mg) (hPr : ThisP P) : Cal P w K mg base "_law_name" 2 ["stream", "taken", "base"] (SpW K (a_name K)) := by
  refine E.cal 5 9 (st := (topS 11)) rfl rfl (fun _ _ _ _ _ _ us hl => match us, hl with | [_, _, _], _ => rfl) fun f fd F => okWD F sc_law_name (fun xs os P' h => ?_) (fun cdv Ar outer s0 H0 E0 hr xs os P' h => ?_)
  · obtain ⟨_, _, _, _, rfl, _⟩ := h; rfl
  · obtain ⟨ls, lt, taken, base_, rfl, rfl, hbase, hP⟩ := h
    refine ⟨_, (pss_cons (ps_set (i := 3) sc_law_name.nd rfl (.inl rfl) pe_str)
    (pss_cons (ps_set (i := 4) sc_law_name.nd rfl (.inl rfl) (pe_op op_add_str (pv 3) pe_str))
    (pss_cons (ps_set (i := 5) sc_law_name.nd rfl (.inl rfl) (pe_c (ok_law_draw E hPr) (hr.mono (by decide)) rfl (pa_cons (pv 0) (pa_cons pe_int pa_nil))))
    (pss_cons (ps_set (i := 6) sc_law_name.nd rfl (.inl rfl) (pv 2))
    (pss_cons (ps_if (PW.pt (pw_or (pt_cmpR op_eq (pv 5) pe_int (nomark _)) (pw_or1 (pt_cmpR op_eq (pv 2) pe_str (nomark _))))) (pss_cons (ps_set (i := 6) sc_law_name.nd rfl (.inl rfl) (pe_ix ix_str (pv 3) (pe_c (ok_law_draw E hPr) (hr.mono (by decide)) rfl (pa_cons (pv 0) (pa_cons pe_int pa_nil))) (fun _ _ => rfl)))
    (pss_one (ps_for PassesOwn.never rfl (pi_range1 rfl (E.free 20) (pa_cons (pe_c (ok_law_draw E hPr) (hr.mono (by decide)) rfl (pa_cons (pv 0) (pa_cons pe_int pa_nil))) pa_nil)) (pg_name (i := 7) sc_law_name.nd rfl (.inl rfl))
      (pss_one (ps_set (i := 6) sc_law_name.nd rfl (.inl rfl) (pe_op op_add_str (pv 6) (pe_ix ix_str (pv 4) (pe_c (ok_law_draw E hPr) (hr.mono (by decide)) rfl (pa_cons (pv 0) (pa_cons pe_int pa_nil))) (fun _ _ => rfl)))))))) (pss_one (ps_if (pt_cmpR op_eq (pv 5) pe_int (nomark _)) (pss_one (ps_set (i := 6) sc_law_name.nd rfl (.inl rfl) (pe_slice sl_str (pv 2) po_none (po_some (pe_op op_add pe_int (pe_c (ok_law_draw E hPr) (hr.mono (by decide)) rfl (pa_cons (pv 0) (pa_cons (pe_callB call_len_str (by rfl) (E.free 23) (by decide +kernel) (pa_cons (pv 2) pa_nil)) pa_nil)))))))) pss_nil)))
    (pss_cons (ps_if (PW.pt (pw_and (pt_cmpR op_lt (pv 5) pe_int (nomark _)) (pw_and1 (pt_cmpR (ni_seqK K) (pv 6) (pv 1) (by rfl))))) (pss_one (ps_ret (pv 6))) pss_nil)
    (pss_cons (ps_set (i := 8) sc_law_name.nd rfl (.inl rfl) (pe_c (ok_law_draw E hPr) (hr.mono (by decide)) rfl (pa_cons (pv 0) (pa_cons (pe_callB call_len_str (by rfl) (E.free 23) (by decide +kernel) (pa_cons (pv 6) pa_nil)) pa_nil))))
    (pss_cons (ps_set (i := 9) sc_law_name.nd rfl (.inl rfl) (pe_c (ok_law_draw E hPr) (hr.mono (by decide)) rfl (pa_cons (pv 0) (pa_cons pe_int pa_nil))))
    (pss_cons (ps_for PassesOwn.never rfl (pi_range1 rfl (E.free 20) (pa_cons pe_int pa_nil)) (pg_name (i := 7) sc_law_name.nd rfl (.inl rfl))
      (pss_cons (ps_set (i := 10) sc_law_name.nd rfl (.inl rfl) (pe_op op_add_str (pe_op op_add_str (pe_slice sl_str (pv 6) po_none (po_some (pv 8))) (pe_ix ix_str (pv 3) (pe_op op_mod (pe_callTy call_int1 (by rfl) (E.free 25) (by decide +kernel) (pa_cons (pe_op op_add (pv 9) (pv 7)) pa_nil)) pe_int) (fun _ _ => rfl))) (pe_slice sl_str (pv 6) (po_some (pe_op op_add (pv 8) pe_int)) po_none)))
    (pss_one (ps_if (pt_cmpR (ni_seqK K) (pv 10) (pv 1) (by rfl)) (pss_one (ps_ret (pv 10))) pss_nil))))
    (pss_one (ps_ret (pv 6)))))))))))) , fun g σ Q s fin => ?_⟩
    refine st_set s (ev_lit (l := ltrs)) (fun v g h s => ?_)
    try dsimp only
    refine st_set s (ev_addG (ev_var (x := Sg.mk ltrs) rfl) (ev_lit (l := dgts)) (by decide)) (fun v g h s => ?_)
    try dsimp only
    refine st_setW s (ew_takeC (m := 0) rfl rfl ev_int ⟨by decide, by decide⟩) (fun way hway v g h s => ?_)
    try dsimp only
    refine st_set s (ev_var (x := base_) rfl) (fun v g h s => ?_)
    try dsimp only
    refine st_if_cut (fun e o => ∃ (text : Sg) (s7 s8 s9 s10 : Slot K), e = [sv (V.ref ls), sv (V.ref lt), sv base_, sv (Sg.mk ltrs), sv (Sg.mk (ltrs ++ dgts)), sv way, sv text, s7, s8, s9, s10] ∧ o = [(ls, Stream K), (lt, Own.lst K taken)] ∧ gN text) s (et_or (et_test (ev_eqI (ev_var rfl) ev_int)) fun _ => (et_test (ev_eqG (ev_var (x := base_) rfl) (ev_lit (l := []))))) (fun e o g h σ hJ s => ?_) (fun hc g h N s hN => ?_) (fun hc g h N s hN => ?_)
    rotate_left
    · -- a new text
      refine st_setW s (ew_sign (n := 26) ltrs_ok (by decide) (by decide) (ev_var (x := Sg.mk ltrs) rfl) (ew_takeC (m := 0) rfl rfl ev_int ⟨by decide, by decide⟩)) (fun t0 ht0 v g h s => ?_)
      obtain ⟨c0, rfl, hc0⟩ := ht0
      try dsimp only
      refine st_forRW (PN := fun n => 0 ≤ n ∧ n < 12) s (ew_takeC (m := 0) rfl rfl ev_int ⟨by decide, by decide⟩) (fun n hn g h s => ?_)
      refine st_for_range s ev_int (by omega) (by omega) (fun k e o => ∃ (text : Sg) (s7 s8 s9 s10 : Slot K), e = [sv (V.ref ls), sv (V.ref lt), sv base_, sv (Sg.mk ltrs), sv (Sg.mk (ltrs ++ dgts)), sv way, sv text, s7, s8, s9, s10] ∧ o = [(ls, Stream K), (lt, Own.lst K taken)] ∧ 1 ≤ text.l.length ∧ text.l.length ≤ k + 1 ∧ ∀ c ∈ text.l, c < 1114112) ⟨⟨[c0]⟩, _, _, _, _, rfl, rfl, by simp, by simp, by simpa using hc0⟩ (fun k hk c hls e o g h σ N hI back s hN => ?_) (fun e o g h σ hI s => ?_)
      · obtain ⟨text, s7, s8, s9, s10, rfl, rfl, h1, h2, h3⟩ := hI
        try dsimp only
        refine st_setW s (EvW.imp (ew_op (f := fun (x y : Sg) => Sg.mk (x.l ++ y.l)) (Ev.w (ev_var (x := text) rfl)) (ew_sign (n := 36) signs_ok (by decide) (by decide) (ev_var (x := Sg.mk (ltrs ++ dgts)) rfl) (ew_takeC (m := 0) rfl rfl ev_int ⟨by decide, by decide⟩)) fun x y hx hy => by
          obtain ⟨c, rfl, _⟩ := hy
          subst hx
          exact ev_addG (ev_var rfl) (ev_var rfl) (by simp only [List.length_cons, List.length_nil]; omega)) (P' := fun z : Sg => ∃ c, z = ⟨text.l ++ [c]⟩ ∧ c < 1114112) fun z hz => by
          obtain ⟨x, y, rfl, ⟨c, rfl, hc⟩, rfl⟩ := hz
          exact ⟨c, rfl, hc⟩) (fun t1 ht1 v g h s => ?_)
        obtain ⟨c1, rfl, hc1⟩ := ht1
        refine hN _ _ _ _ _ ⟨_, _, _, _, _, rfl, rfl, by simp, ?_, fun c hc => ?_⟩ s
        · rw [List.length_append]; simp; omega
        · rcases List.mem_append.mp hc with q | q
          · exact h3 c q
          · rw [List.mem_singleton.mp q]; exact hc1
      · obtain ⟨text, s7, s8, s9, s10, rfl, rfl, h1, h2, h3⟩ := hI
        exact hN _ _ _ _ _ ⟨text, _, _, _, _, rfl, rfl, h1, by omega, h3⟩ s
    · have hc2 := Bool.or_eq_false_iff.mp hc
      have hne : base_ ≠ ⟨[]⟩ := of_decide_eq_false hc2.2
      have hb : gN base_ := hbase.resolve_left hne
      refine st_if s (et_test (ev_eqI (ev_var rfl) ev_int)) (fun hc g h s => ?_) (fun hc g h s => ?_)
      · refine st_setW s (EvW.imp (ew_slHi (f := fun (x : Sg) (y : Int) => Sg.mk (cut x.l none (some y))) (P' := fun y : Int => 1 ≤ y ∧ y ≤ base_.l.length) (Ev.w (ev_var (x := base_) rfl)) (EvW.imp (ew_op (f := fun x y : Int => x + y) (Ev.w ev_int) (ew_takeC (m := 0) (n := (base_.l.length : Int)) rfl rfl (ev_lenG (ev_var (x := base_) rfl) (by have := hb.2.1; omega)) ⟨by have := hb.1; omega, by have := hb.2.1; omega⟩) fun x y _ _ => ev_i2 (ev_var rfl) (ev_var rfl)) fun z hz => by
          obtain ⟨x, y, rfl, hy, rfl⟩ := hz
          omega) fun x y hx hy => by
          subst hx
          exact ev_slG (ev_var rfl) eo_none (eo_some (ev_var rfl)) (by have := hb.2.1; omega)) (P' := gN) fun z hz => by
          obtain ⟨x, y, rfl, hy, rfl⟩ := hz
          have hb1 := hb.1
          have hb2 := hb.2.1
          show gN ⟨_⟩
          rw [cut_to (by omega) (by omega)]
          refine ⟨?_, ?_, fun c hc => hb.2.2 c (List.mem_of_mem_take hc)⟩
          · show 1 ≤ (List.take _ _).length
            rw [List.length_take]; omega
          · show (List.take _ _).length ≤ 12
            rw [List.length_take]; omega) (fun t1 ht1 v g h s => ?_)
        exact hN _ _ _ _ _ ⟨t1, _, _, _, _, rfl, rfl, ht1⟩ s
      · exact hN _ _ _ _ _ ⟨base_, _, _, _, _, rfl, rfl, hb⟩ s
    obtain ⟨text, s7, s8, s9, s10, rfl, rfl, ht⟩ := hJ
    try dsimp only
    refine st_if s (et_and (et_test (ev_ib (ev_var rfl) ev_int)) fun _ => (et_test (ev_niSgO (i := 1) (m := 1) (ev_var (x := text) rfl) rfl rfl))) (fun hc g h s => ?_) (fun hc g h s => ?_)
    · exact st_ret s (ev_var (x := text) rfl) fun v g h s r => fin v text g h _ _ _ _ (hP text ht) (fun p hp => hp) s (by exact s.nd) r
    dsimp only [tNext]
    have ht1 := ht.1
    have ht2 := ht.2.1
    refine st_setW s (ew_takeC (m := 0) (n := (text.l.length : Int)) rfl rfl (ev_lenG (ev_var (x := text) rfl) (by omega)) ⟨by omega, by omega⟩) (fun at_ hat v g h s => ?_)
    try dsimp only
    refine st_setW s (ew_takeC (m := 0) rfl rfl ev_int ⟨by decide, by decide⟩) (fun first hfirst v g h s => ?_)
    try dsimp only
    refine st_for_range s ev_int (by decide) (by decide) (fun k e o => ∃ (s7 s10 : Slot K), e = [sv (V.ref ls), sv (V.ref lt), sv base_, sv (Sg.mk ltrs), sv (Sg.mk (ltrs ++ dgts)), sv way, sv text, s7, sv at_, sv first, s10] ∧ o = [(ls, Stream K), (lt, Own.lst K taken)]) ⟨_, _, rfl, rfl⟩ (fun k hk c hls e o g h σ N hI back s hN => ?_) (fun e o g h σ hI s => ?_)
    · obtain ⟨s7, s10, rfl, rfl⟩ := hI
      try dsimp only
      have hm : 0 ≤ (first + (k : Int)) % 26 ∧ (first + (k : Int)) % 26 < 26 := mod_bd (by decide)
      obtain ⟨i1, i2⟩ := ix_sign (u := ltrs) (n := 26) ltrs_ok (by decide) hm.1 hm.2
      have e1 : cut text.l none (some at_) = text.l.take at_.toNat := cut_to hat.1 (by omega)
      have e2 : cut text.l (some (at_ + 1)) none = text.l.drop (at_ + 1).toNat := cut_from (by omega) (by omega)
      have l1 : (cut text.l none (some at_)).length = at_.toNat := by rw [e1, List.length_take]; omega
      have l2 : (cut text.l (some (at_ + 1)) none).length + at_.toNat + 1 = text.l.length := by rw [e2, List.length_drop]; omega
      refine st_set s (ev_addG (ev_addG (ev_slG (ev_var (x := text) rfl) eo_none (eo_some (ev_var (x := at_) rfl)) (by omega)) (ev_ixG (x := Sg.mk ltrs) (ev_var rfl) (ev_iC (ev_intI (ev_i2 (ev_var (x := first) rfl) (ev_var rfl))) ev_int (by decide)) (by decide) i1) (by rw [l1]; simp only [List.length_cons, List.length_nil]; omega)) (ev_slG (ev_var (x := text) rfl) (eo_some (ev_i2 (ev_var (x := at_) rfl) ev_int)) eo_none (by omega)) (by simp only [List.length_append, List.length_cons, List.length_nil]; omega)) (fun v g h s => ?_)
      try dsimp only
      have hg : gN ⟨(cut text.l none (some at_) ++ [ltrs.getD ((first + (k : Int)) % 26).toNat 0]) ++ cut text.l (some (at_ + 1)) none⟩ := by
        refine ⟨?_, ?_, fun c hc => ?_⟩
        · show 1 ≤ ((_ ++ _) ++ _ : List Nat).length
          simp only [List.length_append, List.length_cons, List.length_nil]; omega
        · show ((_ ++ _) ++ _ : List Nat).length ≤ 12
          simp only [List.length_append, List.length_cons, List.length_nil]; omega
        · have hc : c ∈ (cut text.l none (some at_) ++ [ltrs.getD ((first + (k : Int)) % 26).toNat 0]) ++ cut text.l (some (at_ + 1)) none := hc
          rw [e1, e2] at hc
          rcases List.mem_append.mp hc with q | q
          · rcases List.mem_append.mp q with q | q
            · exact ht.2.2 c (List.mem_of_mem_take q)
            · rw [List.mem_singleton.mp q]; exact i2
          · exact ht.2.2 c (List.mem_of_mem_drop q)
      generalize hnm : Sg.mk ((cut text.l none (some at_) ++ [ltrs.getD ((first + (k : Int)) % 26).toNat 0]) ++ cut text.l (some (at_ + 1)) none) = nm at s hg
      refine st_if s (et_test (ev_niSgO (i := 1) (m := 1) (ev_var (x := nm) rfl) rfl rfl)) (fun hc g h s => ?_) (fun hc g h s => ?_)
      · exact st_ret s (ev_var (x := nm) rfl) fun v g h s r => fin v nm g h _ _ _ _ (hP nm hg) (fun p hp => hp) (back s) (by exact s.nd) r
      · exact hN _ _ _ _ _ ⟨_, _, rfl, rfl⟩ s
    · obtain ⟨s7, s10, rfl, rfl⟩ := hI
      try dsimp only
      exact st_ret s (ev_var (x := text) rfl) fun v g h s r => fin v text g h _ _ _ _ (hP text ht) (fun p hp => hp) s (by exact s.nd) r
def a_name0 (K : PySem.W.Frag) : List (Slot K) → Os → (Sg → Os → Prop) → Prop := fun xs os P => ∃ (ls : Addr) (taken : List Sg) (b : Sg), xs = [sv (V.ref ls), sv taken, sv b] ∧ os = [(ls, Stream K)] ∧ (b = ⟨[]⟩ ∨ gN b) ∧ ∀ z, gN z → P z os
theorem ok_law_name0 (E : FX K mg) (hPr : ThisP P) : Cal P w K mg base "_law_name" 2 ["stream", "taken", "base"] (SpW K (a_name0 K)) := by
  refine E.cal 5 9 (st := (topS 11)) rfl rfl (fun _ _ _ _ _ _ us hl => match us, hl with | [_, _, _], _ => rfl) fun f fd F => okWD F sc_law_name (fun xs os P' h => ?_) (fun cdv Ar outer s0 H0 E0 hr xs os P' h => ?_)
  · obtain ⟨_, _, _, rfl, _⟩ := h; rfl
  · obtain ⟨ls, taken, base_, rfl, rfl, hbase, hP⟩ := h
    refine ⟨_, (pss_cons (ps_set (i := 3) sc_law_name.nd rfl (.inl rfl) pe_str)
    (pss_cons (ps_set (i := 4) sc_law_name.nd rfl (.inl rfl) (pe_op op_add_str (pv 3) pe_str))
    (pss_cons (ps_set (i := 5) sc_law_name.nd rfl (.inl rfl) (pe_c (ok_law_draw E hPr) (hr.mono (by decide)) rfl (pa_cons (pv 0) (pa_cons pe_int pa_nil))))
    (pss_cons (ps_set (i := 6) sc_law_name.nd rfl (.inl rfl) (pv 2))
    (pss_cons (ps_if (PW.pt (pw_or (pt_cmpR op_eq (pv 5) pe_int (nomark _)) (pw_or1 (pt_cmpR op_eq (pv 2) pe_str (nomark _))))) (pss_cons (ps_set (i := 6) sc_law_name.nd rfl (.inl rfl) (pe_ix ix_str (pv 3) (pe_c (ok_law_draw E hPr) (hr.mono (by decide)) rfl (pa_cons (pv 0) (pa_cons pe_int pa_nil))) (fun _ _ => rfl)))
    (pss_one (ps_for PassesOwn.never rfl (pi_range1 rfl (E.free 20) (pa_cons (pe_c (ok_law_draw E hPr) (hr.mono (by decide)) rfl (pa_cons (pv 0) (pa_cons pe_int pa_nil))) pa_nil)) (pg_name (i := 7) sc_law_name.nd rfl (.inl rfl))
      (pss_one (ps_set (i := 6) sc_law_name.nd rfl (.inl rfl) (pe_op op_add_str (pv 6) (pe_ix ix_str (pv 4) (pe_c (ok_law_draw E hPr) (hr.mono (by decide)) rfl (pa_cons (pv 0) (pa_cons pe_int pa_nil))) (fun _ _ => rfl)))))))) (pss_one (ps_if (pt_cmpR op_eq (pv 5) pe_int (nomark _)) (pss_one (ps_set (i := 6) sc_law_name.nd rfl (.inl rfl) (pe_slice sl_str (pv 2) po_none (po_some (pe_op op_add pe_int (pe_c (ok_law_draw E hPr) (hr.mono (by decide)) rfl (pa_cons (pv 0) (pa_cons (pe_callB call_len_str (by rfl) (E.free 23) (by decide +kernel) (pa_cons (pv 2) pa_nil)) pa_nil)))))))) pss_nil)))
    (pss_cons (ps_if (PW.pt (pw_and (pt_cmpR op_lt (pv 5) pe_int (nomark _)) (pw_and1 (pt_cmpR (ni_seqK K) (pv 6) (pv 1) (by rfl))))) (pss_one (ps_ret (pv 6))) pss_nil)
    (pss_cons (ps_set (i := 8) sc_law_name.nd rfl (.inl rfl) (pe_c (ok_law_draw E hPr) (hr.mono (by decide)) rfl (pa_cons (pv 0) (pa_cons (pe_callB call_len_str (by rfl) (E.free 23) (by decide +kernel) (pa_cons (pv 6) pa_nil)) pa_nil))))
    (pss_cons (ps_set (i := 9) sc_law_name.nd rfl (.inl rfl) (pe_c (ok_law_draw E hPr) (hr.mono (by decide)) rfl (pa_cons (pv 0) (pa_cons pe_int pa_nil))))
    (pss_cons (ps_for PassesOwn.never rfl (pi_range1 rfl (E.free 20) (pa_cons pe_int pa_nil)) (pg_name (i := 7) sc_law_name.nd rfl (.inl rfl))
      (pss_cons (ps_set (i := 10) sc_law_name.nd rfl (.inl rfl) (pe_op op_add_str (pe_op op_add_str (pe_slice sl_str (pv 6) po_none (po_some (pv 8))) (pe_ix ix_str (pv 3) (pe_op op_mod (pe_callTy call_int1 (by rfl) (E.free 25) (by decide +kernel) (pa_cons (pe_op op_add (pv 9) (pv 7)) pa_nil)) pe_int) (fun _ _ => rfl))) (pe_slice sl_str (pv 6) (po_some (pe_op op_add (pv 8) pe_int)) po_none)))
    (pss_one (ps_if (pt_cmpR (ni_seqK K) (pv 10) (pv 1) (by rfl)) (pss_one (ps_ret (pv 10))) pss_nil))))
    (pss_one (ps_ret (pv 6)))))))))))) , fun g σ Q s fin => ?_⟩
    refine st_set s (ev_lit (l := ltrs)) (fun v g h s => ?_)
    try dsimp only
    refine st_set s (ev_addG (ev_var (x := Sg.mk ltrs) rfl) (ev_lit (l := dgts)) (by decide)) (fun v g h s => ?_)
    try dsimp only
    refine st_setW s (ew_takeC (m := 0) rfl rfl ev_int ⟨by decide, by decide⟩) (fun way hway v g h s => ?_)
    try dsimp only
    refine st_set s (ev_var (x := base_) rfl) (fun v g h s => ?_)
    try dsimp only
    refine st_if_cut (fun e o => ∃ (text : Sg) (s7 s8 s9 s10 : Slot K), e = [sv (V.ref ls), sv taken, sv base_, sv (Sg.mk ltrs), sv (Sg.mk (ltrs ++ dgts)), sv way, sv text, s7, s8, s9, s10] ∧ o = [(ls, Stream K)] ∧ gN text) s (et_or (et_test (ev_eqI (ev_var rfl) ev_int)) fun _ => (et_test (ev_eqG (ev_var (x := base_) rfl) (ev_lit (l := []))))) (fun e o g h σ hJ s => ?_) (fun hc g h N s hN => ?_) (fun hc g h N s hN => ?_)
    rotate_left
    · -- a new text
      refine st_setW s (ew_sign (n := 26) ltrs_ok (by decide) (by decide) (ev_var (x := Sg.mk ltrs) rfl) (ew_takeC (m := 0) rfl rfl ev_int ⟨by decide, by decide⟩)) (fun t0 ht0 v g h s => ?_)
      obtain ⟨c0, rfl, hc0⟩ := ht0
      try dsimp only
      refine st_forRW (PN := fun n => 0 ≤ n ∧ n < 12) s (ew_takeC (m := 0) rfl rfl ev_int ⟨by decide, by decide⟩) (fun n hn g h s => ?_)
      refine st_for_range s ev_int (by omega) (by omega) (fun k e o => ∃ (text : Sg) (s7 s8 s9 s10 : Slot K), e = [sv (V.ref ls), sv taken, sv base_, sv (Sg.mk ltrs), sv (Sg.mk (ltrs ++ dgts)), sv way, sv text, s7, s8, s9, s10] ∧ o = [(ls, Stream K)] ∧ 1 ≤ text.l.length ∧ text.l.length ≤ k + 1 ∧ ∀ c ∈ text.l, c < 1114112) ⟨⟨[c0]⟩, _, _, _, _, rfl, rfl, by simp, by simp, by simpa using hc0⟩ (fun k hk c hls e o g h σ N hI back s hN => ?_) (fun e o g h σ hI s => ?_)
      · obtain ⟨text, s7, s8, s9, s10, rfl, rfl, h1, h2, h3⟩ := hI
        try dsimp only
        refine st_setW s (EvW.imp (ew_op (f := fun (x y : Sg) => Sg.mk (x.l ++ y.l)) (Ev.w (ev_var (x := text) rfl)) (ew_sign (n := 36) signs_ok (by decide) (by decide) (ev_var (x := Sg.mk (ltrs ++ dgts)) rfl) (ew_takeC (m := 0) rfl rfl ev_int ⟨by decide, by decide⟩)) fun x y hx hy => by
          obtain ⟨c, rfl, _⟩ := hy
          subst hx
          exact ev_addG (ev_var rfl) (ev_var rfl) (by simp only [List.length_cons, List.length_nil]; omega)) (P' := fun z : Sg => ∃ c, z = ⟨text.l ++ [c]⟩ ∧ c < 1114112) fun z hz => by
          obtain ⟨x, y, rfl, ⟨c, rfl, hc⟩, rfl⟩ := hz
          exact ⟨c, rfl, hc⟩) (fun t1 ht1 v g h s => ?_)
        obtain ⟨c1, rfl, hc1⟩ := ht1
        refine hN _ _ _ _ _ ⟨_, _, _, _, _, rfl, rfl, by simp, ?_, fun c hc => ?_⟩ s
        · rw [List.length_append]; simp; omega
        · rcases List.mem_append.mp hc with q | q
          · exact h3 c q
          · rw [List.mem_singleton.mp q]; exact hc1
      · obtain ⟨text, s7, s8, s9, s10, rfl, rfl, h1, h2, h3⟩ := hI
        exact hN _ _ _ _ _ ⟨text, _, _, _, _, rfl, rfl, h1, by omega, h3⟩ s
    · have hc2 := Bool.or_eq_false_iff.mp hc
      have hne : base_ ≠ ⟨[]⟩ := of_decide_eq_false hc2.2
      have hb : gN base_ := hbase.resolve_left hne
      refine st_if s (et_test (ev_eqI (ev_var rfl) ev_int)) (fun hc g h s => ?_) (fun hc g h s => ?_)
      · refine st_setW s (EvW.imp (ew_slHi (f := fun (x : Sg) (y : Int) => Sg.mk (cut x.l none (some y))) (P' := fun y : Int => 1 ≤ y ∧ y ≤ base_.l.length) (Ev.w (ev_var (x := base_) rfl)) (EvW.imp (ew_op (f := fun x y : Int => x + y) (Ev.w ev_int) (ew_takeC (m := 0) (n := (base_.l.length : Int)) rfl rfl (ev_lenG (ev_var (x := base_) rfl) (by have := hb.2.1; omega)) ⟨by have := hb.1; omega, by have := hb.2.1; omega⟩) fun x y _ _ => ev_i2 (ev_var rfl) (ev_var rfl)) fun z hz => by
          obtain ⟨x, y, rfl, hy, rfl⟩ := hz
          omega) fun x y hx hy => by
          subst hx
          exact ev_slG (ev_var rfl) eo_none (eo_some (ev_var rfl)) (by have := hb.2.1; omega)) (P' := gN) fun z hz => by
          obtain ⟨x, y, rfl, hy, rfl⟩ := hz
          have hb1 := hb.1
          have hb2 := hb.2.1
          show gN ⟨_⟩
          rw [cut_to (by omega) (by omega)]
          refine ⟨?_, ?_, fun c hc => hb.2.2 c (List.mem_of_mem_take hc)⟩
          · show 1 ≤ (List.take _ _).length
            rw [List.length_take]; omega
          · show (List.take _ _).length ≤ 12
            rw [List.length_take]; omega) (fun t1 ht1 v g h s => ?_)
        exact hN _ _ _ _ _ ⟨t1, _, _, _, _, rfl, rfl, ht1⟩ s
      · exact hN _ _ _ _ _ ⟨base_, _, _, _, _, rfl, rfl, hb⟩ s
    obtain ⟨text, s7, s8, s9, s10, rfl, rfl, ht⟩ := hJ
    try dsimp only
    refine st_if s (et_and (et_test (ev_ib (ev_var rfl) ev_int)) fun _ => (et_test (ev_niSg (ev_var (x := text) rfl) (ev_var (x := taken) rfl)))) (fun hc g h s => ?_) (fun hc g h s => ?_)
    · exact st_ret s (ev_var (x := text) rfl) fun v g h s r => fin v text g h _ _ _ _ (hP text ht) (fun p hp => hp) s (by exact s.nd) r
    dsimp only [tNext]
    have ht1 := ht.1
    have ht2 := ht.2.1
    refine st_setW s (ew_takeC (m := 0) (n := (text.l.length : Int)) rfl rfl (ev_lenG (ev_var (x := text) rfl) (by omega)) ⟨by omega, by omega⟩) (fun at_ hat v g h s => ?_)
    try dsimp only
    refine st_setW s (ew_takeC (m := 0) rfl rfl ev_int ⟨by decide, by decide⟩) (fun first hfirst v g h s => ?_)
    try dsimp only
    refine st_for_range s ev_int (by decide) (by decide) (fun k e o => ∃ (s7 s10 : Slot K), e = [sv (V.ref ls), sv taken, sv base_, sv (Sg.mk ltrs), sv (Sg.mk (ltrs ++ dgts)), sv way, sv text, s7, sv at_, sv first, s10] ∧ o = [(ls, Stream K)]) ⟨_, _, rfl, rfl⟩ (fun k hk c hls e o g h σ N hI back s hN => ?_) (fun e o g h σ hI s => ?_)
    · obtain ⟨s7, s10, rfl, rfl⟩ := hI
      try dsimp only
      have hm : 0 ≤ (first + (k : Int)) % 26 ∧ (first + (k : Int)) % 26 < 26 := mod_bd (by decide)
      obtain ⟨i1, i2⟩ := ix_sign (u := ltrs) (n := 26) ltrs_ok (by decide) hm.1 hm.2
      have e1 : cut text.l none (some at_) = text.l.take at_.toNat := cut_to hat.1 (by omega)
      have e2 : cut text.l (some (at_ + 1)) none = text.l.drop (at_ + 1).toNat := cut_from (by omega) (by omega)
      have l1 : (cut text.l none (some at_)).length = at_.toNat := by rw [e1, List.length_take]; omega
      have l2 : (cut text.l (some (at_ + 1)) none).length + at_.toNat + 1 = text.l.length := by rw [e2, List.length_drop]; omega
      refine st_set s (ev_addG (ev_addG (ev_slG (ev_var (x := text) rfl) eo_none (eo_some (ev_var (x := at_) rfl)) (by omega)) (ev_ixG (x := Sg.mk ltrs) (ev_var rfl) (ev_iC (ev_intI (ev_i2 (ev_var (x := first) rfl) (ev_var rfl))) ev_int (by decide)) (by decide) i1) (by rw [l1]; simp only [List.length_cons, List.length_nil]; omega)) (ev_slG (ev_var (x := text) rfl) (eo_some (ev_i2 (ev_var (x := at_) rfl) ev_int)) eo_none (by omega)) (by simp only [List.length_append, List.length_cons, List.length_nil]; omega)) (fun v g h s => ?_)
      try dsimp only
      have hg : gN ⟨(cut text.l none (some at_) ++ [ltrs.getD ((first + (k : Int)) % 26).toNat 0]) ++ cut text.l (some (at_ + 1)) none⟩ := by
        refine ⟨?_, ?_, fun c hc => ?_⟩
        · show 1 ≤ ((_ ++ _) ++ _ : List Nat).length
          simp only [List.length_append, List.length_cons, List.length_nil]; omega
        · show ((_ ++ _) ++ _ : List Nat).length ≤ 12
          simp only [List.length_append, List.length_cons, List.length_nil]; omega
        · have hc : c ∈ (cut text.l none (some at_) ++ [ltrs.getD ((first + (k : Int)) % 26).toNat 0]) ++ cut text.l (some (at_ + 1)) none := hc
          rw [e1, e2] at hc
          rcases List.mem_append.mp hc with q | q
          · rcases List.mem_append.mp q with q | q
            · exact ht.2.2 c (List.mem_of_mem_take q)
            · rw [List.mem_singleton.mp q]; exact i2
          · exact ht.2.2 c (List.mem_of_mem_drop q)
      generalize hnm : Sg.mk ((cut text.l none (some at_) ++ [ltrs.getD ((first + (k : Int)) % 26).toNat 0]) ++ cut text.l (some (at_ + 1)) none) = nm at s hg
      refine st_if s (et_test (ev_niSg (ev_var (x := nm) rfl) (ev_var (x := taken) rfl))) (fun hc g h s => ?_) (fun hc g h s => ?_)
      · exact st_ret s (ev_var (x := nm) rfl) fun v g h s r => fin v nm g h _ _ _ _ (hP nm hg) (fun p hp => hp) (back s) (by exact s.nd) r
      · exact hN _ _ _ _ _ ⟨_, _, rfl, rfl⟩ s
    · obtain ⟨s7, s10, rfl, rfl⟩ := hI
      try dsimp only
      exact st_ret s (ev_var (x := text) rfl) fun v g h s r => fin v text g h _ _ _ _ (hP text ht) (fun p hp => hp) s (by exact s.nd) r
end K22
namespace K22
open PySem PySem.Spec PyProof.Rows L2 Lw ClX
variable {P : Program} {w : World} {K : PySem.W.Frag} {mg : Str → Option Value} {base : Heap}
/-! ### makers of rules -/
section
variable {env : Lw.Env K} {os : Os} {t : TA}
theorem ev_ranked {told : List Sg} {E : XK} (e : EvA t env os (told.map fun y => sv (K := K) y)) (hl : told.length ≤ 1000) : Ev (tMake (cRank K) (SpX K (aStXF 1 Sg (a_told K (cRank K)))) [] E t) env os (RV.ranked told) :=
  Ev.conv (iα := instRk) (x := Rk.mk told) (ev_make (iα := instRk) (ds := []) (fun _ _ _ r => r) e (fun x dx => ⟨[sv (V.ref x)], told, by rw [List.append_nil]; rfl, rfl, hl, x, dx, told, rfl, rfl, Rk.mk told, rfl, rfl⟩)) fun g v r => r
theorem ev_rounds {told : List Sg} {E : XK} (e : EvA t env os (told.map fun y => sv (K := K) y)) (hl : told.length ≤ 1000) : Ev (tMake (cRoun K) (SpX K (aStXF 1 Sg (a_told K (cRoun K)))) [] E t) env os (RV.rounds told) :=
  Ev.conv (iα := instRo) (x := Ro.mk told) (ev_make (iα := instRo) (ds := []) (fun _ _ _ r => r) e (fun x dx => ⟨[sv (V.ref x)], told, by rw [List.append_nil]; rfl, rfl, hl, x, dx, told, rfl, rfl, Ro.mk told, rfl, rfl⟩)) fun g v r => r
end
def a_mk (K : PySem.W.Frag) (f : List Sg → RV) : List (Slot K) → (RV → Prop) → Prop := fun xs P => ∃ told : List Sg, xs = [sv told] ∧ told.length ≤ 6 ∧ P (f told)
theorem sc_law_ranked : FnScope ["told"] ["told"] (defScope (topS 12)) := ⟨rfl, rfl, rfl, by decide +kernel, rfl, by decide +kernel, by decide +kernel⟩
theorem ok_law_ranked (E : FX K mg) (hPr : ThisP P) : Cal P w K mg base "_law_ranked" 4 ["told"] (SpR K (a_mk K RV.ranked)) := by
  refine E.cal 6 10 (st := (topS 12)) rfl rfl (fun _ _ _ _ _ _ us hl => match us, hl with | [_], _ => rfl) fun f fd F => okRD F sc_law_ranked (fun xs P' h => ?_) (fun cdv Ar outer s0 H0 E0 hr xs P' h => ?_)
  · obtain ⟨_, rfl, _⟩ := h; rfl
  · obtain ⟨told, rfl, hz, hP⟩ := h
    refine ⟨_, (pss_cons (ps_if (pt_cmpR op_eq (pe_callB (len_seqK K) (by rfl) (E.free 23) (by decide +kernel) (pa_cons (pv 0) pa_nil)) pe_int (nomark _)) (pss_one (ps_ret (pe_mkR0 (E := fun _ _ _ => False) (mk_Ranked E hPr) (hr.mono (by decide)) takes0N (fun _ _ _ _ z => z) rfl))) pss_nil)
    (pss_cons (ps_if (pt_cmpR op_eq (pe_callB (len_seqK K) (by rfl) (E.free 23) (by decide +kernel) (pa_cons (pv 0) pa_nil)) pe_int (nomark _)) (pss_one (ps_ret (pe_mkR (E := fun _ _ _ => False) (mk_Ranked E hPr) (hr.mono (by decide)) takes0N (fun _ _ _ _ z => z) rfl (pa_cons (pe_ix (ix_listK K) (pv 0) pe_int (fun _ _ => rfl)) pa_nil)))) pss_nil)
    (pss_cons (ps_if (pt_cmpR op_eq (pe_callB (len_seqK K) (by rfl) (E.free 23) (by decide +kernel) (pa_cons (pv 0) pa_nil)) pe_int (nomark _)) (pss_one (ps_ret (pe_mkR (E := fun _ _ _ => False) (mk_Ranked E hPr) (hr.mono (by decide)) takes0N (fun _ _ _ _ z => z) rfl (pa_cons (pe_ix (ix_listK K) (pv 0) pe_int (fun _ _ => rfl)) (pa_cons (pe_ix (ix_listK K) (pv 0) pe_int (fun _ _ => rfl)) pa_nil))))) pss_nil)
    (pss_cons (ps_if (pt_cmpR op_eq (pe_callB (len_seqK K) (by rfl) (E.free 23) (by decide +kernel) (pa_cons (pv 0) pa_nil)) pe_int (nomark _)) (pss_one (ps_ret (pe_mkR (E := fun _ _ _ => False) (mk_Ranked E hPr) (hr.mono (by decide)) takes0N (fun _ _ _ _ z => z) rfl (pa_cons (pe_ix (ix_listK K) (pv 0) pe_int (fun _ _ => rfl)) (pa_cons (pe_ix (ix_listK K) (pv 0) pe_int (fun _ _ => rfl)) (pa_cons (pe_ix (ix_listK K) (pv 0) pe_int (fun _ _ => rfl)) pa_nil)))))) pss_nil)
    (pss_cons (ps_if (pt_cmpR op_eq (pe_callB (len_seqK K) (by rfl) (E.free 23) (by decide +kernel) (pa_cons (pv 0) pa_nil)) pe_int (nomark _)) (pss_one (ps_ret (pe_mkR (E := fun _ _ _ => False) (mk_Ranked E hPr) (hr.mono (by decide)) takes0N (fun _ _ _ _ z => z) rfl (pa_cons (pe_ix (ix_listK K) (pv 0) pe_int (fun _ _ => rfl)) (pa_cons (pe_ix (ix_listK K) (pv 0) pe_int (fun _ _ => rfl)) (pa_cons (pe_ix (ix_listK K) (pv 0) pe_int (fun _ _ => rfl)) (pa_cons (pe_ix (ix_listK K) (pv 0) pe_int (fun _ _ => rfl)) pa_nil))))))) pss_nil)
    (pss_cons (ps_if (pt_cmpR op_eq (pe_callB (len_seqK K) (by rfl) (E.free 23) (by decide +kernel) (pa_cons (pv 0) pa_nil)) pe_int (nomark _)) (pss_one (ps_ret (pe_mkR (E := fun _ _ _ => False) (mk_Ranked E hPr) (hr.mono (by decide)) takes0N (fun _ _ _ _ z => z) rfl (pa_cons (pe_ix (ix_listK K) (pv 0) pe_int (fun _ _ => rfl)) (pa_cons (pe_ix (ix_listK K) (pv 0) pe_int (fun _ _ => rfl)) (pa_cons (pe_ix (ix_listK K) (pv 0) pe_int (fun _ _ => rfl)) (pa_cons (pe_ix (ix_listK K) (pv 0) pe_int (fun _ _ => rfl)) (pa_cons (pe_ix (ix_listK K) (pv 0) pe_int (fun _ _ => rfl)) pa_nil)))))))) pss_nil)
    (pss_one (ps_ret (pe_mkR (E := fun _ _ _ => False) (mk_Ranked E hPr) (hr.mono (by decide)) takes0N (fun _ _ _ _ z => z) rfl (pa_cons (pe_ix (ix_listK K) (pv 0) pe_int (fun _ _ => rfl)) (pa_cons (pe_ix (ix_listK K) (pv 0) pe_int (fun _ _ => rfl)) (pa_cons (pe_ix (ix_listK K) (pv 0) pe_int (fun _ _ => rfl)) (pa_cons (pe_ix (ix_listK K) (pv 0) pe_int (fun _ _ => rfl)) (pa_cons (pe_ix (ix_listK K) (pv 0) pe_int (fun _ _ => rfl)) (pa_cons (pe_ix (ix_listK K) (pv 0) pe_int (fun _ _ => rfl)) pa_nil))))))))))))))) , fun g σ Q s fin => ?_⟩
    refine st_if s (et_test (ev_eqI (ev_lenL (ev_var rfl)) ev_int)) (fun hc g h s => ?_) (fun h0 g h s => ?_)
    · have hl : told.length = 0 := by have := of_decide_eq_true hc; omega
      obtain rfl : told = [] := by
        match told, hl with
        | [], _ => exact rfl
      exact st_ret s (ev_ranked (told := []) ea_nil (by simp)) fun v g h s r => fin v _ g h _ _ _ hP s r
    dsimp only [tNext]
    refine st_if s (et_test (ev_eqI (ev_lenL (ev_var rfl)) ev_int)) (fun hc g h s => ?_) (fun h1 g h s => ?_)
    · have hl : told.length = 1 := by have := of_decide_eq_true hc; omega
      obtain ⟨a0, rfl⟩ : ∃ a0 : Sg, told = [a0] := by
        match told, hl with
        | [a0], _ => exact ⟨a0, rfl⟩
      exact st_ret s (ev_ranked (told := [a0]) (ea_cons (ev_ixL (x := a0) (ev_var (x := [a0]) rfl) ev_int rfl) ea_nil) (by simp)) fun v g h s r => fin v _ g h _ _ _ hP s r
    dsimp only [tNext]
    refine st_if s (et_test (ev_eqI (ev_lenL (ev_var rfl)) ev_int)) (fun hc g h s => ?_) (fun h2 g h s => ?_)
    · have hl : told.length = 2 := by have := of_decide_eq_true hc; omega
      obtain ⟨a0, a1, rfl⟩ : ∃ a0 a1 : Sg, told = [a0, a1] := by
        match told, hl with
        | [a0, a1], _ => exact ⟨a0, a1, rfl⟩
      exact st_ret s (ev_ranked (told := [a0, a1]) (ea_cons (ev_ixL (x := a0) (ev_var (x := [a0, a1]) rfl) ev_int rfl) (ea_cons (ev_ixL (x := a1) (ev_var (x := [a0, a1]) rfl) ev_int rfl) ea_nil)) (by simp)) fun v g h s r => fin v _ g h _ _ _ hP s r
    dsimp only [tNext]
    refine st_if s (et_test (ev_eqI (ev_lenL (ev_var rfl)) ev_int)) (fun hc g h s => ?_) (fun h3 g h s => ?_)
    · have hl : told.length = 3 := by have := of_decide_eq_true hc; omega
      obtain ⟨a0, a1, a2, rfl⟩ : ∃ a0 a1 a2 : Sg, told = [a0, a1, a2] := by
        match told, hl with
        | [a0, a1, a2], _ => exact ⟨a0, a1, a2, rfl⟩
      exact st_ret s (ev_ranked (told := [a0, a1, a2]) (ea_cons (ev_ixL (x := a0) (ev_var (x := [a0, a1, a2]) rfl) ev_int rfl) (ea_cons (ev_ixL (x := a1) (ev_var (x := [a0, a1, a2]) rfl) ev_int rfl) (ea_cons (ev_ixL (x := a2) (ev_var (x := [a0, a1, a2]) rfl) ev_int rfl) ea_nil))) (by simp)) fun v g h s r => fin v _ g h _ _ _ hP s r
    dsimp only [tNext]
    refine st_if s (et_test (ev_eqI (ev_lenL (ev_var rfl)) ev_int)) (fun hc g h s => ?_) (fun h4 g h s => ?_)
    · have hl : told.length = 4 := by have := of_decide_eq_true hc; omega
      obtain ⟨a0, a1, a2, a3, rfl⟩ : ∃ a0 a1 a2 a3 : Sg, told = [a0, a1, a2, a3] := by
        match told, hl with
        | [a0, a1, a2, a3], _ => exact ⟨a0, a1, a2, a3, rfl⟩
      exact st_ret s (ev_ranked (told := [a0, a1, a2, a3]) (ea_cons (ev_ixL (x := a0) (ev_var (x := [a0, a1, a2, a3]) rfl) ev_int rfl) (ea_cons (ev_ixL (x := a1) (ev_var (x := [a0, a1, a2, a3]) rfl) ev_int rfl) (ea_cons (ev_ixL (x := a2) (ev_var (x := [a0, a1, a2, a3]) rfl) ev_int rfl) (ea_cons (ev_ixL (x := a3) (ev_var (x := [a0, a1, a2, a3]) rfl) ev_int rfl) ea_nil)))) (by simp)) fun v g h s r => fin v _ g h _ _ _ hP s r
    dsimp only [tNext]
    refine st_if s (et_test (ev_eqI (ev_lenL (ev_var rfl)) ev_int)) (fun hc g h s => ?_) (fun h5 g h s => ?_)
    · have hl : told.length = 5 := by have := of_decide_eq_true hc; omega
      obtain ⟨a0, a1, a2, a3, a4, rfl⟩ : ∃ a0 a1 a2 a3 a4 : Sg, told = [a0, a1, a2, a3, a4] := by
        match told, hl with
        | [a0, a1, a2, a3, a4], _ => exact ⟨a0, a1, a2, a3, a4, rfl⟩
      exact st_ret s (ev_ranked (told := [a0, a1, a2, a3, a4]) (ea_cons (ev_ixL (x := a0) (ev_var (x := [a0, a1, a2, a3, a4]) rfl) ev_int rfl) (ea_cons (ev_ixL (x := a1) (ev_var (x := [a0, a1, a2, a3, a4]) rfl) ev_int rfl) (ea_cons (ev_ixL (x := a2) (ev_var (x := [a0, a1, a2, a3, a4]) rfl) ev_int rfl) (ea_cons (ev_ixL (x := a3) (ev_var (x := [a0, a1, a2, a3, a4]) rfl) ev_int rfl) (ea_cons (ev_ixL (x := a4) (ev_var (x := [a0, a1, a2, a3, a4]) rfl) ev_int rfl) ea_nil))))) (by simp)) fun v g h s r => fin v _ g h _ _ _ hP s r
    dsimp only [tNext]
    have h0 := of_decide_eq_false h0
    have h1 := of_decide_eq_false h1
    have h2 := of_decide_eq_false h2
    have h3 := of_decide_eq_false h3
    have h4 := of_decide_eq_false h4
    have h5 := of_decide_eq_false h5
    have hl : told.length = 6 := by omega
    obtain ⟨a0, a1, a2, a3, a4, a5, rfl⟩ : ∃ a0 a1 a2 a3 a4 a5 : Sg, told = [a0, a1, a2, a3, a4, a5] := by
      match told, hl with
      | [a0, a1, a2, a3, a4, a5], _ => exact ⟨a0, a1, a2, a3, a4, a5, rfl⟩
    exact st_ret s (ev_ranked (told := [a0, a1, a2, a3, a4, a5]) (ea_cons (ev_ixL (x := a0) (ev_var (x := [a0, a1, a2, a3, a4, a5]) rfl) ev_int rfl) (ea_cons (ev_ixL (x := a1) (ev_var (x := [a0, a1, a2, a3, a4, a5]) rfl) ev_int rfl) (ea_cons (ev_ixL (x := a2) (ev_var (x := [a0, a1, a2, a3, a4, a5]) rfl) ev_int rfl) (ea_cons (ev_ixL (x := a3) (ev_var (x := [a0, a1, a2, a3, a4, a5]) rfl) ev_int rfl) (ea_cons (ev_ixL (x := a4) (ev_var (x := [a0, a1, a2, a3, a4, a5]) rfl) ev_int rfl) (ea_cons (ev_ixL (x := a5) (ev_var (x := [a0, a1, a2, a3, a4, a5]) rfl) ev_int rfl) ea_nil)))))) (by simp)) fun v g h s r => fin v _ g h _ _ _ hP s r
theorem sc_law_rounds : FnScope ["told"] ["told"] (defScope (topS 13)) := ⟨rfl, rfl, rfl, by decide +kernel, rfl, by decide +kernel, by decide +kernel⟩
theorem ok_law_rounds (E : FX K mg) (hPr : ThisP P) : Cal P w K mg base "_law_rounds" 4 ["told"] (SpR K (a_mk K RV.rounds)) := by
  refine E.cal 7 11 (st := (topS 13)) rfl rfl (fun _ _ _ _ _ _ us hl => match us, hl with | [_], _ => rfl) fun f fd F => okRD F sc_law_rounds (fun xs P' h => ?_) (fun cdv Ar outer s0 H0 E0 hr xs P' h => ?_)
  · obtain ⟨_, rfl, _⟩ := h; rfl
  · obtain ⟨told, rfl, hz, hP⟩ := h
    refine ⟨_, (pss_cons (ps_if (pt_cmpR op_eq (pe_callB (len_seqK K) (by rfl) (E.free 23) (by decide +kernel) (pa_cons (pv 0) pa_nil)) pe_int (nomark _)) (pss_one (ps_ret (pe_mkR0 (E := fun _ _ _ => False) (mk_Rounds E hPr) (hr.mono (by decide)) takes0N (fun _ _ _ _ z => z) rfl))) pss_nil)
    (pss_cons (ps_if (pt_cmpR op_eq (pe_callB (len_seqK K) (by rfl) (E.free 23) (by decide +kernel) (pa_cons (pv 0) pa_nil)) pe_int (nomark _)) (pss_one (ps_ret (pe_mkR (E := fun _ _ _ => False) (mk_Rounds E hPr) (hr.mono (by decide)) takes0N (fun _ _ _ _ z => z) rfl (pa_cons (pe_ix (ix_listK K) (pv 0) pe_int (fun _ _ => rfl)) pa_nil)))) pss_nil)
    (pss_cons (ps_if (pt_cmpR op_eq (pe_callB (len_seqK K) (by rfl) (E.free 23) (by decide +kernel) (pa_cons (pv 0) pa_nil)) pe_int (nomark _)) (pss_one (ps_ret (pe_mkR (E := fun _ _ _ => False) (mk_Rounds E hPr) (hr.mono (by decide)) takes0N (fun _ _ _ _ z => z) rfl (pa_cons (pe_ix (ix_listK K) (pv 0) pe_int (fun _ _ => rfl)) (pa_cons (pe_ix (ix_listK K) (pv 0) pe_int (fun _ _ => rfl)) pa_nil))))) pss_nil)
    (pss_cons (ps_if (pt_cmpR op_eq (pe_callB (len_seqK K) (by rfl) (E.free 23) (by decide +kernel) (pa_cons (pv 0) pa_nil)) pe_int (nomark _)) (pss_one (ps_ret (pe_mkR (E := fun _ _ _ => False) (mk_Rounds E hPr) (hr.mono (by decide)) takes0N (fun _ _ _ _ z => z) rfl (pa_cons (pe_ix (ix_listK K) (pv 0) pe_int (fun _ _ => rfl)) (pa_cons (pe_ix (ix_listK K) (pv 0) pe_int (fun _ _ => rfl)) (pa_cons (pe_ix (ix_listK K) (pv 0) pe_int (fun _ _ => rfl)) pa_nil)))))) pss_nil)
    (pss_cons (ps_if (pt_cmpR op_eq (pe_callB (len_seqK K) (by rfl) (E.free 23) (by decide +kernel) (pa_cons (pv 0) pa_nil)) pe_int (nomark _)) (pss_one (ps_ret (pe_mkR (E := fun _ _ _ => False) (mk_Rounds E hPr) (hr.mono (by decide)) takes0N (fun _ _ _ _ z => z) rfl (pa_cons (pe_ix (ix_listK K) (pv 0) pe_int (fun _ _ => rfl)) (pa_cons (pe_ix (ix_listK K) (pv 0) pe_int (fun _ _ => rfl)) (pa_cons (pe_ix (ix_listK K) (pv 0) pe_int (fun _ _ => rfl)) (pa_cons (pe_ix (ix_listK K) (pv 0) pe_int (fun _ _ => rfl)) pa_nil))))))) pss_nil)
    (pss_cons (ps_if (pt_cmpR op_eq (pe_callB (len_seqK K) (by rfl) (E.free 23) (by decide +kernel) (pa_cons (pv 0) pa_nil)) pe_int (nomark _)) (pss_one (ps_ret (pe_mkR (E := fun _ _ _ => False) (mk_Rounds E hPr) (hr.mono (by decide)) takes0N (fun _ _ _ _ z => z) rfl (pa_cons (pe_ix (ix_listK K) (pv 0) pe_int (fun _ _ => rfl)) (pa_cons (pe_ix (ix_listK K) (pv 0) pe_int (fun _ _ => rfl)) (pa_cons (pe_ix (ix_listK K) (pv 0) pe_int (fun _ _ => rfl)) (pa_cons (pe_ix (ix_listK K) (pv 0) pe_int (fun _ _ => rfl)) (pa_cons (pe_ix (ix_listK K) (pv 0) pe_int (fun _ _ => rfl)) pa_nil)))))))) pss_nil)
    (pss_one (ps_ret (pe_mkR (E := fun _ _ _ => False) (mk_Rounds E hPr) (hr.mono (by decide)) takes0N (fun _ _ _ _ z => z) rfl (pa_cons (pe_ix (ix_listK K) (pv 0) pe_int (fun _ _ => rfl)) (pa_cons (pe_ix (ix_listK K) (pv 0) pe_int (fun _ _ => rfl)) (pa_cons (pe_ix (ix_listK K) (pv 0) pe_int (fun _ _ => rfl)) (pa_cons (pe_ix (ix_listK K) (pv 0) pe_int (fun _ _ => rfl)) (pa_cons (pe_ix (ix_listK K) (pv 0) pe_int (fun _ _ => rfl)) (pa_cons (pe_ix (ix_listK K) (pv 0) pe_int (fun _ _ => rfl)) pa_nil))))))))))))))) , fun g σ Q s fin => ?_⟩
    refine st_if s (et_test (ev_eqI (ev_lenL (ev_var rfl)) ev_int)) (fun hc g h s => ?_) (fun h0 g h s => ?_)
    · have hl : told.length = 0 := by have := of_decide_eq_true hc; omega
      obtain rfl : told = [] := by
        match told, hl with
        | [], _ => exact rfl
      exact st_ret s (ev_rounds (told := []) ea_nil (by simp)) fun v g h s r => fin v _ g h _ _ _ hP s r
    dsimp only [tNext]
    refine st_if s (et_test (ev_eqI (ev_lenL (ev_var rfl)) ev_int)) (fun hc g h s => ?_) (fun h1 g h s => ?_)
    · have hl : told.length = 1 := by have := of_decide_eq_true hc; omega
      obtain ⟨a0, rfl⟩ : ∃ a0 : Sg, told = [a0] := by
        match told, hl with
        | [a0], _ => exact ⟨a0, rfl⟩
      exact st_ret s (ev_rounds (told := [a0]) (ea_cons (ev_ixL (x := a0) (ev_var (x := [a0]) rfl) ev_int rfl) ea_nil) (by simp)) fun v g h s r => fin v _ g h _ _ _ hP s r
    dsimp only [tNext]
    refine st_if s (et_test (ev_eqI (ev_lenL (ev_var rfl)) ev_int)) (fun hc g h s => ?_) (fun h2 g h s => ?_)
    · have hl : told.length = 2 := by have := of_decide_eq_true hc; omega
      obtain ⟨a0, a1, rfl⟩ : ∃ a0 a1 : Sg, told = [a0, a1] := by
        match told, hl with
        | [a0, a1], _ => exact ⟨a0, a1, rfl⟩
      exact st_ret s (ev_rounds (told := [a0, a1]) (ea_cons (ev_ixL (x := a0) (ev_var (x := [a0, a1]) rfl) ev_int rfl) (ea_cons (ev_ixL (x := a1) (ev_var (x := [a0, a1]) rfl) ev_int rfl) ea_nil)) (by simp)) fun v g h s r => fin v _ g h _ _ _ hP s r
    dsimp only [tNext]
    refine st_if s (et_test (ev_eqI (ev_lenL (ev_var rfl)) ev_int)) (fun hc g h s => ?_) (fun h3 g h s => ?_)
    · have hl : told.length = 3 := by have := of_decide_eq_true hc; omega
      obtain ⟨a0, a1, a2, rfl⟩ : ∃ a0 a1 a2 : Sg, told = [a0, a1, a2] := by
        match told, hl with
        | [a0, a1, a2], _ => exact ⟨a0, a1, a2, rfl⟩
      exact st_ret s (ev_rounds (told := [a0, a1, a2]) (ea_cons (ev_ixL (x := a0) (ev_var (x := [a0, a1, a2]) rfl) ev_int rfl) (ea_cons (ev_ixL (x := a1) (ev_var (x := [a0, a1, a2]) rfl) ev_int rfl) (ea_cons (ev_ixL (x := a2) (ev_var (x := [a0, a1, a2]) rfl) ev_int rfl) ea_nil))) (by simp)) fun v g h s r => fin v _ g h _ _ _ hP s r
    dsimp only [tNext]
    refine st_if s (et_test (ev_eqI (ev_lenL (ev_var rfl)) ev_int)) (fun hc g h s => ?_) (fun h4 g h s => ?_)
    · have hl : told.length = 4 := by have := of_decide_eq_true hc; omega
      obtain ⟨a0, a1, a2, a3, rfl⟩ : ∃ a0 a1 a2 a3 : Sg, told = [a0, a1, a2, a3] := by
        match told, hl with
        | [a0, a1, a2, a3], _ => exact ⟨a0, a1, a2, a3, rfl⟩
      exact st_ret s (ev_rounds (told := [a0, a1, a2, a3]) (ea_cons (ev_ixL (x := a0) (ev_var (x := [a0, a1, a2, a3]) rfl) ev_int rfl) (ea_cons (ev_ixL (x := a1) (ev_var (x := [a0, a1, a2, a3]) rfl) ev_int rfl) (ea_cons (ev_ixL (x := a2) (ev_var (x := [a0, a1, a2, a3]) rfl) ev_int rfl) (ea_cons (ev_ixL (x := a3) (ev_var (x := [a0, a1, a2, a3]) rfl) ev_int rfl) ea_nil)))) (by simp)) fun v g h s r => fin v _ g h _ _ _ hP s r
    dsimp only [tNext]
    refine st_if s (et_test (ev_eqI (ev_lenL (ev_var rfl)) ev_int)) (fun hc g h s => ?_) (fun h5 g h s => ?_)
    · have hl : told.length = 5 := by have := of_decide_eq_true hc; omega
      obtain ⟨a0, a1, a2, a3, a4, rfl⟩ : ∃ a0 a1 a2 a3 a4 : Sg, told = [a0, a1, a2, a3, a4] := by
        match told, hl with
        | [a0, a1, a2, a3, a4], _ => exact ⟨a0, a1, a2, a3, a4, rfl⟩
      exact st_ret s (ev_rounds (told := [a0, a1, a2, a3, a4]) (ea_cons (ev_ixL (x := a0) (ev_var (x := [a0, a1, a2, a3, a4]) rfl) ev_int rfl) (ea_cons (ev_ixL (x := a1) (ev_var (x := [a0, a1, a2, a3, a4]) rfl) ev_int rfl) (ea_cons (ev_ixL (x := a2) (ev_var (x := [a0, a1, a2, a3, a4]) rfl) ev_int rfl) (ea_cons (ev_ixL (x := a3) (ev_var (x := [a0, a1, a2, a3, a4]) rfl) ev_int rfl) (ea_cons (ev_ixL (x := a4) (ev_var (x := [a0, a1, a2, a3, a4]) rfl) ev_int rfl) ea_nil))))) (by simp)) fun v g h s r => fin v _ g h _ _ _ hP s r
    dsimp only [tNext]
    have h0 := of_decide_eq_false h0
    have h1 := of_decide_eq_false h1
    have h2 := of_decide_eq_false h2
    have h3 := of_decide_eq_false h3
    have h4 := of_decide_eq_false h4
    have h5 := of_decide_eq_false h5
    have hl : told.length = 6 := by omega
    obtain ⟨a0, a1, a2, a3, a4, a5, rfl⟩ : ∃ a0 a1 a2 a3 a4 a5 : Sg, told = [a0, a1, a2, a3, a4, a5] := by
      match told, hl with
      | [a0, a1, a2, a3, a4, a5], _ => exact ⟨a0, a1, a2, a3, a4, a5, rfl⟩
    exact st_ret s (ev_rounds (told := [a0, a1, a2, a3, a4, a5]) (ea_cons (ev_ixL (x := a0) (ev_var (x := [a0, a1, a2, a3, a4, a5]) rfl) ev_int rfl) (ea_cons (ev_ixL (x := a1) (ev_var (x := [a0, a1, a2, a3, a4, a5]) rfl) ev_int rfl) (ea_cons (ev_ixL (x := a2) (ev_var (x := [a0, a1, a2, a3, a4, a5]) rfl) ev_int rfl) (ea_cons (ev_ixL (x := a3) (ev_var (x := [a0, a1, a2, a3, a4, a5]) rfl) ev_int rfl) (ea_cons (ev_ixL (x := a4) (ev_var (x := [a0, a1, a2, a3, a4, a5]) rfl) ev_int rfl) (ea_cons (ev_ixL (x := a5) (ev_var (x := [a0, a1, a2, a3, a4, a5]) rfl) ev_int rfl) ea_nil)))))) (by simp)) fun v g h s r => fin v _ g h _ _ _ hP s r
def ruleOf (kind : Int) (told : List Sg) : RV := if kind = 0 then .rule else if kind = 1 then .soonest else if kind = 2 then .ranked told else .rounds told
def a_rule (K : PySem.W.Frag) : List (Slot K) → (RV → Prop) → Prop := fun xs P => ∃ (kind : Int) (told : List Sg), xs = [sv kind, sv told] ∧ told.length ≤ 6 ∧ P (ruleOf kind told)
theorem sc_law_rule : FnScope ["kind", "told"] ["kind", "told"] (defScope (topS 14)) := ⟨rfl, rfl, rfl, by decide +kernel, rfl, by decide +kernel, by decide +kernel⟩
theorem ok_law_rule (E : FX K mg) (hPr : ThisP P) : Cal P w K mg base "_law_rule" 5 ["kind", "told"] (SpR K (a_rule K)) := by
  refine E.cal 8 12 (st := (topS 14)) rfl rfl (fun _ _ _ _ _ _ us hl => match us, hl with | [_, _], _ => rfl) fun f fd F => okRD F sc_law_rule (fun xs P' h => ?_) (fun cdv Ar outer s0 H0 E0 hr xs P' h => ?_)
  · obtain ⟨_, _, rfl, _⟩ := h; rfl
  · obtain ⟨kind, told, rfl, hz, hP⟩ := h
    refine ⟨_, (pss_cons (ps_if (pt_cmpR op_eq (pv 0) pe_int (nomark _)) (pss_one (ps_ret (pe_mk0 (mk0B_ok (ck E 0)) rfl (E.gref 3 rfl)))) pss_nil)
    (pss_cons (ps_if (pt_cmpR op_eq (pv 0) pe_int (nomark _)) (pss_one (ps_ret (pe_mk0 (mk0B_ok (ck E 2)) rfl (E.gref 4 rfl)))) pss_nil)
    (pss_cons (ps_if (pt_cmpR op_eq (pv 0) pe_int (nomark _)) (pss_one (ps_ret (pe_c (ok_law_ranked E hPr) (hr.mono (by decide)) rfl (pa_cons (pv 1) pa_nil)))) pss_nil)
    (pss_one (ps_ret (pe_c (ok_law_rounds E hPr) (hr.mono (by decide)) rfl (pa_cons (pv 1) pa_nil))))))) , fun g σ Q s fin => ?_⟩
    unfold ruleOf at hP
    refine st_if s (et_test (ev_eqI (ev_var rfl) ev_int)) (fun hc g h s => ?_) (fun h0 g h s => ?_)
    · rw [if_pos (of_decide_eq_true hc)] at hP
      exact st_ret s (ev_mk0 (z := RV.rule) fun g v ⟨a, dx, e1, e2⟩ => ⟨a, dx, [], e1, e2, .nil⟩) fun v g h s r => fin v _ g h _ _ _ hP s r
    dsimp only [tNext]
    rw [if_neg (of_decide_eq_false h0)] at hP
    refine st_if s (et_test (ev_eqI (ev_var rfl) ev_int)) (fun hc g h s => ?_) (fun h0 g h s => ?_)
    · rw [if_pos (of_decide_eq_true hc)] at hP
      exact st_ret s (ev_mk0 (z := RV.soonest) fun g v ⟨a, dx, e1, e2⟩ => ⟨a, dx, [], e1, e2, .nil⟩) fun v g h s r => fin v _ g h _ _ _ hP s r
    dsimp only [tNext]
    rw [if_neg (of_decide_eq_false h0)] at hP
    refine st_if s (et_test (ev_eqI (ev_var rfl) ev_int)) (fun hc g h s => ?_) (fun h0 g h s => ?_)
    · rw [if_pos (of_decide_eq_true hc)] at hP
      exact st_ret s (ev_call (z := RV.ranked told) (ea_cons (ev_var (x := told) rfl) ea_nil) ⟨told, rfl, hz, rfl⟩) fun v g h s r => fin v _ g h _ _ _ hP s r
    dsimp only [tNext]
    rw [if_neg (of_decide_eq_false h0)] at hP
    exact st_ret s (ev_call (z := RV.rounds told) (ea_cons (ev_var (x := told) rfl) ea_nil) ⟨told, rfl, hz, rfl⟩) fun v g h s r => fin v _ g h _ _ _ hP s r
/-! ### the law's own order -/
def lrank (told : List Sg) (p : Sg) : Int × Sg := if p ∈ told then (idx told p, ⟨[]⟩) else ((told.length : Int), p)
def a_lrank (K : PySem.W.Frag) : List (Slot K) → (Int × Sg → Prop) → Prop := fun xs P => ∃ (told : List Sg) (p : Sg), xs = [sv told, sv p] ∧ P (lrank told p)
theorem sc_law_rank : FnScope ["told", "plan"] ["told", "plan"] (defScope (topS 15)) := ⟨rfl, rfl, rfl, by decide +kernel, rfl, by decide +kernel, by decide +kernel⟩
theorem ok_law_rank (E : FX K mg) (hPr : ThisP P) : Cal P w K mg base "_law_rank" 1 ["told", "plan"] (SpR K (a_lrank K)) := by
  refine E.cal 9 13 (st := (topS 15)) rfl rfl (fun _ _ _ _ _ _ us hl => match us, hl with | [_, _], _ => rfl) fun f fd F => okRD F sc_law_rank (fun xs P' h => ?_) (fun cdv Ar outer s0 H0 E0 hr xs P' h => ?_)
  · obtain ⟨_, _, rfl, _⟩ := h; rfl
  · obtain ⟨told, plan, rfl, hP⟩ := h
    refine ⟨_, (pss_cons (ps_if (pt_cmpR (in_seqK K) (pv 1) (pv 0) (by rfl)) (pss_one (ps_ret (pe_tup (pa_cons (pe_bm PySem.F.plainAttrs_list PySem.F.slot_list_index PySem.F.type_list_index mt_indexK (pv 0) (pa_cons (pv 1) pa_nil)) (pa_cons pe_str pa_nil))))) pss_nil)
    (pss_one (ps_ret (pe_tup (pa_cons (pe_callB (len_seqK K) (by rfl) (E.free 23) (by decide +kernel) (pa_cons (pv 0) pa_nil)) (pa_cons (pv 1) pa_nil)))))) , fun g σ Q s fin => ?_⟩
    refine st_if s (et_test (ev_inSg (ev_var rfl) (ev_var rfl))) (fun hc g h s => ?_) (fun hc g h s => ?_)
    · have hm : plan ∈ told := of_decide_eq_true hc
      rw [show lrank told plan = (idx told plan, ⟨[]⟩) from if_pos hm] at hP
      exact st_ret s (ev_pair (ev_idxL (ev_var rfl) (ev_var rfl) hm) (ev_lit (l := []))) fun v g h s r => fin v _ g h _ _ _ hP s r
    · rw [show lrank told plan = ((told.length : Int), plan) from if_neg (of_decide_eq_false hc)] at hP
      exact st_ret s (ev_pair (ev_lenL (ev_var rfl)) (ev_var rfl)) fun v g h s r => fin v _ g h _ _ _ hP s r
abbrev d2 (r : Int × Sg) : PyData := .tuple [.int r.1, .str r.2.s]
def lturn (kind : Int) (told : List Sg) (last p : Sg) : Bool := decide (kind = 3) && (!decide (last = ⟨[]⟩) && !PySem.W.dataLt (d2 (lrank told last)) (d2 (lrank told p)))
def six (kind : Int) (told : List Sg) (last : Sg) (r : Row) : Six := if 2 ≤ kind then ⟨if lturn kind told last r.a = true then 1 else 0, (lrank told r.a).1, (lrank told r.a).2, r.c, r.a, r.b⟩ else ⟨0, 0, ⟨[]⟩, r.c, r.a, r.b⟩
abbrev dSix (x : Six) : PyData := .tuple [.int x.a, .int x.b, .str x.c.s, .int x.d, .str x.e.s, .str x.f.s]
def due (kind : Int) (told : List Sg) (last : Sg) (ws : List Row) : List Row := ((ws.map (six kind told last)).mergeSort (PySem.W.dataLe false dSix)).map fun x => ⟨x.e, x.f, x.d⟩
def a_due (K : PySem.W.Frag) : List (Slot K) → (List Row → Prop) → Prop := fun xs P => ∃ (kind : Int) (told : List Sg) (ws : List Row) (last : Sg), xs = [sv kind, sv told, sv ws, sv last] ∧ ws.length ≤ 1000 ∧ P (due kind told last ws)
theorem sc_law_due : FnScope ["kind", "told", "waiting", "last", "found", "row", "turned", "rank"] ["kind", "told", "waiting", "last"] (defScope (topS 16)) := ⟨rfl, rfl, rfl, by decide +kernel, rfl, by decide +kernel, by decide +kernel⟩
theorem ok_law_due (E : FX K mg) (hPr : ThisP P) : Cal P w K mg base "_law_due" 2 ["kind", "told", "waiting", "last"] (SpR K (a_due K)) := by
  refine E.cal 10 14 (st := (topS 16)) rfl rfl (fun _ _ _ _ _ _ us hl => match us, hl with | [_, _, _, _], _ => rfl) fun f fd F => okRD F sc_law_due (fun xs P' h => ?_) (fun cdv Ar outer s0 H0 E0 hr xs P' h => ?_)
  · obtain ⟨_, _, _, _, rfl, _⟩ := h; rfl
  · obtain ⟨kind, told, ws, last, rfl, hz, hP⟩ := h
    refine ⟨_, (pss_cons (ps_set (i := 4) sc_law_due.nd rfl (.inl rfl) (pe_lst pa_nil))
    (pss_cons (ps_for PassesOwn.never rfl (pi_listK K (pv 2)) (pg_name (i := 5) sc_law_due.nd rfl (.inl rfl))
      (pss_cons (ps_set (i := 6) sc_law_due.nd rfl (.inl rfl) pe_int)
    (pss_cons (ps_set (i := 7) sc_law_due.nd rfl (.inl rfl) (pe_tup (pa_cons pe_int (pa_cons pe_str pa_nil))))
    (pss_cons (ps_if (pt_cmpR op_ge (pv 0) pe_int (nomark _)) (pss_cons (ps_set (i := 7) sc_law_due.nd rfl (.inl rfl) (pe_c (ok_law_rank E hPr) (hr.mono (by decide)) rfl (pa_cons (pv 1) (pa_cons (pe_ix (ix_tupK K) (pv 5) pe_int (fun _ _ => rfl)) pa_nil))))
    (pss_one (ps_if (PW.pt (pw_and (pt_cmpR op_eq (pv 0) pe_int (nomark _)) (pw_and (pt_cmpR op_ne (pv 3) pe_str (nomark _)) (pw_and1 (pt_cmpR (op_leD hr.units) (pv 7) (pe_c (ok_law_rank E hPr) (hr.mono (by decide)) rfl (pa_cons (pv 1) (pa_cons (pv 3) pa_nil))) (nomark _)))))) (pss_one (ps_set (i := 6) sc_law_due.nd rfl (.inl rfl) pe_int)) pss_nil))) pss_nil)
    (pss_one (ps_expr (pe_bm PySem.F.plainAttrs_list PySem.F.slot_list_append PySem.F.type_list_append mt_append (pv 4) (pa_cons (pe_tup (pa_cons (pv 6) (pa_cons (pe_ix (ix_tupK K) (pv 7) pe_int (fun _ _ => rfl)) (pa_cons (pe_ix (ix_tupK K) (pv 7) pe_int (fun _ _ => rfl)) (pa_cons (pe_ix (ix_tupK K) (pv 5) pe_int (fun _ _ => rfl)) (pa_cons (pe_ix (ix_tupK K) (pv 5) pe_int (fun _ _ => rfl)) (pa_cons (pe_ix (ix_tupK K) (pv 5) pe_int (fun _ _ => rfl)) pa_nil))))))) pa_nil))))))))
    (pss_one (ps_ret (pe_lc (own := [("row", 5)]) (g := gName 5) (tt := tYes) rfl sc_law_due.nd (pi_listK K (pe_callB (cr_sortD hr.units) (by rfl) (E.free 22) (by decide +kernel) (pa_cons (pv 4) pa_nil))) (blkOk_by (N := ["kind", "told", "waiting", "last", "found", "row", "turned", "rank"]) (sc := defScope (topS 16)) (own := [("row", 5)]) (by decide +kernel)) (fun _ _ _ _ _ => (pg_name (i := 5) sc_law_due.nd rfl (Or.inl rfl))) (fun _ _ _ _ _ => pts_nil) (fun _ _ _ _ _ => (pe_tup (pa_cons (pe_ix (ix_tupK K) (pv 5) pe_int (fun _ _ => rfl)) (pa_cons (pe_ix (ix_tupK K) (pv 5) pe_int (fun _ _ => rfl)) (pa_cons (pe_ix (ix_tupK K) (pv 5) pe_int (fun _ _ => rfl)) pa_nil)))))))))) , fun g σ Q s fin => ?_⟩
    refine st_setN s (en_lst (xs := ([] : List Six)) el_nil (by decide)) (fun l g h s => ?_)
    try dsimp only
    refine st_for_list tgt_name s (ev_var (x := ws) rfl) (fun n e o => ∃ s5 s6 s7 : Slot K, e = [sv kind, sv told, sv ws, sv last, sv (V.ref l), s5, s6, s7] ∧ o = [(l, Own.lst K ((ws.map (six kind told last)).take n))]) ⟨_, _, _, rfl, rfl⟩ (fun n row hx c hls e o g h σ N hI back s hN => ?_) (fun e o g h σ hI s => ?_)
    · obtain ⟨s5, s6, s7, rfl, rfl⟩ := hI
      refine st_set s ev_int (fun v g h s => ?_)
      try dsimp only
      refine st_set s (ev_pair ev_int (ev_lit (l := []))) (fun v g h s => ?_)
      try dsimp only
      refine st_if_cut (fun e o => ∃ (tu : Int) (rk : Int × Sg), e = [sv kind, sv told, sv ws, sv last, sv (V.ref l), sv row, sv tu, sv rk] ∧ o = [(l, Own.lst K ((ws.map (six kind told last)).take n))] ∧ six kind told last row = ⟨tu, rk.1, rk.2, row.c, row.a, row.b⟩) s (et_test (ev_ib (ev_var rfl) ev_int)) (fun e o g h σ hJ s => ?_) (fun hc g h N s hN => ?_) (fun hc g h N s hN => ?_)
      · obtain ⟨tu, rk, rfl, rfl, hsx⟩ := hJ
        try dsimp only
        have hn := (List.getElem?_eq_some_iff.mp hx).1
        refine st_append (m := 0) s rfl rfl (by rw [List.length_take, List.length_map, sizeLine_eq]; omega) (ev_six (ev_var (x := tu) rfl) (ev_ixP0 (ev_var (x := rk) rfl)) (ev_ixP1 (ev_var (x := rk) rfl)) (ev_ixC (ev_var (x := row) rfl)) (ev_ixA (ev_var (x := row) rfl)) (ev_ixB (ev_var (x := row) rfl))) (fun g h s => ?_)
        refine hN _ _ _ _ _ ⟨_, _, _, rfl, ?_⟩ s
        rw [List.take_add_one, List.getElem?_map, hx]
        show _ = [(l, Own.lst K (List.take n (List.map (six kind told last) ws) ++ [six kind told last row]))]
        rw [hsx]; rfl
      · have h2 : 2 ≤ kind := of_decide_eq_true hc
        have hsx : six kind told last row = ⟨if lturn kind told last row.a = true then 1 else 0, (lrank told row.a).1, (lrank told row.a).2, row.c, row.a, row.b⟩ := if_pos h2
        refine st_set s (ev_call (z := lrank told row.a) (ea_cons (ev_var (x := told) rfl) (ea_cons (ev_ixA (ev_var (x := row) rfl)) ea_nil)) ⟨told, row.a, rfl, rfl⟩) (fun v g h s => ?_)
        try dsimp only
        refine st_if s (et_and (et_test (ev_eqI (ev_var rfl) ev_int)) fun _ => (et_and (et_test (ev_neG (ev_var (x := last) rfl) (ev_lit (l := [])))) fun _ => (et_test (ev_cmpD (r := fun a b => !PySem.W.dataLt b a) (ev_var (x := lrank told row.a) rfl) (ev_call (z := lrank told last) (ea_cons (ev_var (x := told) rfl) (ea_cons (ev_var (x := last) rfl) ea_nil)) ⟨told, last, rfl, rfl⟩) rfl (fun z => nomatch (show d2 _ = PyData.none from z)))))) (fun hc g h s => ?_) (fun hc g h s => ?_)
        · have hc : lturn kind told last row.a = true := hc
          rw [hc, if_pos rfl] at hsx
          exact st_set s ev_int fun v g h s => hN _ _ _ _ _ ⟨1, lrank told row.a, rfl, rfl, hsx⟩ s
        · have hc : lturn kind told last row.a = false := hc
          rw [hc, if_neg (by decide)] at hsx
          exact hN _ _ _ _ _ ⟨0, lrank told row.a, rfl, rfl, hsx⟩ s
      · have h2 : ¬ 2 ≤ kind := of_decide_eq_false hc
        exact hN _ _ _ _ _ ⟨0, (0, ⟨[]⟩), rfl, rfl, if_neg h2⟩ s
    · obtain ⟨s5, s6, s7, rfl, rfl⟩ := hI
      rw [List.take_of_length_le (by rw [List.length_map]; exact Nat.le_refl _)] at s
      try dsimp only
      obtain ⟨g, s⟩ := s.freeze (i := 4) (m := 0) rfl rfl rfl
      try dsimp only
      have hml : ((ws.map (six kind told last)).mergeSort (PySem.W.dataLe false dSix)).length ≤ 1000000 := by rw [List.length_mergeSort, List.length_map]; omega
      refine st_ret s (EvN.ev (EvN.all (en_lcL (xs := (ws.map (six kind told last)).mergeSort (PySem.W.dataLe false dSix)) (m := fun x : Six => (⟨x.e, x.f, x.d⟩ : Row)) tgt_name (EvN.ev (en_sortD (xs := ws.map (six kind told last)) (ev_var rfl) (PySem.W.AllAlike.of fun _ _ => rfl) (PySem.W.Sortable.tuples fun _ => ⟨_, _, rfl⟩) (by rw [List.length_map]; omega))) (fun _ _ => et_yes) (fun x hx _ => ev_tri (ev_six4 (ev_var (x := x) rfl)) (ev_six5 (ev_var (x := x) rfl)) (ev_six3 (ev_var (x := x) rfl))) hml))) ?_
      exact fun v g h s r => fin v _ g h _ _ _ hP s r
end K22
/-! The plain law: the rules' order is the law's own. -/
namespace K22
open PySem PySem.Spec PyProof.Rows L2 Lw ClX
abbrev LL : List (Int ⊕ List Nat) → List (Int ⊕ List Nat) → Bool := PyProof.Rows.lexLt PyProof.Rows.itemOrd
theorem LL_self (x : Int ⊕ List Nat) (r t : List (Int ⊕ List Nat)) : LL (x :: r) (x :: t) = LL r t := PySem.W.lex_pre [x] r t
theorem LL_ne {x y : Int ⊕ List Nat} (h : x ≠ y) (r t : List (Int ⊕ List Nat)) : LL (x :: r) (y :: t) = PyProof.Rows.itemLt x y := PyProof.Rows.lex_diff (O := PyProof.Rows.itemOrd) h
theorem LL_step {x y : Int ⊕ List Nat} {r t r' t' : List (Int ⊕ List Nat)} (h : x = y → LL r t = LL r' t') : LL (x :: r) (y :: t) = LL (x :: r') (y :: t') := by
  by_cases e : x = y
  · rw [e, LL_self, LL_self, h e]
  · rw [LL_ne e, LL_ne e]
theorem toks_six (s : Six) : PySem.W.keyToks (dSix s) = [.inl 1, .inl s.a, .inl 1, .inl s.b, .inl 1, .inr s.c.l, .inl 1, .inl s.d, .inl 1, .inr s.e.l, .inl 1, .inr s.f.l, .inl 0] := rfl
theorem toks_rule (r : Row) : PySem.W.keyToks (dRule r) = [.inl 1, .inl r.c, .inl 1, .inr r.a.l, .inl 1, .inr r.b.l, .inl 0] := rfl
theorem toks_d3 (x : Tri Int Int Sg) : PySem.W.keyToks (d3 x) = [.inl 1, .inl x.a, .inl 1, .inl x.b, .inl 1, .inr x.c.l, .inl 0] := rfl
theorem toks_d2 (x : Int × Sg) : PySem.W.keyToks (d2 x) = [.inl 1, .inl x.1, .inl 1, .inr x.2.l, .inl 0] := rfl
theorem toks_rank (told : List Sg) (r : Row) : PySem.W.keyToks (dRank told r) = [.inl 1, .inl 1, .inl (prank told r.a).a, .inl 1, .inl (prank told r.a).b, .inl 1, .inr (prank told r.a).c.l, .inl 0, .inl 1, .inl r.c, .inl 1, .inr r.b.l, .inl 0] := rfl
theorem toks_roun (told : List Sg) (last : Sg) (r : Row) : PySem.W.keyToks (dRoun told last r) = [.inl 1, .inl 1, .inl (rrank told r.a last).1, .inl 1, .inl 1, .inl (prank told r.a).a, .inl 1, .inl (prank told r.a).b, .inl 1, .inr (prank told r.a).c.l, .inl 0, .inl 0, .inl 1, .inl r.c, .inl 1, .inr r.b.l, .inl 0] := rfl
theorem inl_ne {i j : Int} (h : i ≠ j) : (Sum.inl i : Int ⊕ List Nat) ≠ .inl j := fun e => h (Sum.inl.inj e)
theorem inr_ne {p q : Sg} (h : p ≠ q) : (Sum.inr p.l : Int ⊕ List Nat) ≠ .inr q.l := fun e => h (by
  cases p; cases q
  exact congrArg Sg.mk (Sum.inr.inj e))
/-- unlike plans: their ranks alone decide -/
theorem core {told : List Sg} {p q : Sg} (h : p ≠ q) : ∃ v : Bool,
    (∀ r t, LL (.inl (prank told p).a :: .inl 1 :: .inl (prank told p).b :: .inl 1 :: .inr (prank told p).c.l :: r) (.inl (prank told q).a :: .inl 1 :: .inl (prank told q).b :: .inl 1 :: .inr (prank told q).c.l :: t) = v) ∧
    ∀ r t, LL (.inl (lrank told p).1 :: .inl 1 :: .inr (lrank told p).2.l :: r) (.inl (lrank told q).1 :: .inl 1 :: .inr (lrank told q).2.l :: t) = v := by
  unfold prank lrank
  by_cases hp : p ∈ told
  · by_cases hq : q ∈ told
    · rw [if_pos hp, if_pos hq, if_pos hp, if_pos hq]
      have hi : idx told p ≠ idx told q := fun e => h (idx_inj hp hq e)
      refine ⟨PyProof.Rows.itemLt (.inl (idx told p)) (.inl (idx told q)), fun r t => ?_, fun r t => LL_ne (inl_ne hi) _ _⟩
      rw [LL_self, LL_self]
      exact LL_ne (inl_ne hi) _ _
    · rw [if_pos hp, if_neg hq, if_pos hp, if_neg hq]
      have hi := idx_lt hp
      refine ⟨true, fun r t => LL_ne (inl_ne (show (0 : Int) ≠ 1 by decide)) _ _, fun r t => ?_⟩
      rw [LL_ne (inl_ne (by show idx told p ≠ (told.length : Int); omega))]
      exact decide_eq_true hi
  · by_cases hq : q ∈ told
    · rw [if_neg hp, if_pos hq, if_neg hp, if_pos hq]
      have hi := idx_lt hq
      refine ⟨false, fun r t => LL_ne (inl_ne (show (1 : Int) ≠ 0 by decide)) _ _, fun r t => ?_⟩
      rw [LL_ne (inl_ne (by show (told.length : Int) ≠ idx told q; omega))]
      exact decide_eq_false (by omega)
    · rw [if_neg hp, if_neg hq, if_neg hp, if_neg hq]
      refine ⟨PyProof.Rows.itemLt (.inr p.l) (.inr q.l), fun r t => ?_, fun r t => ?_⟩
      · rw [LL_self, LL_self, LL_self, LL_self]
        exact LL_ne (inr_ne h) _ _
      · rw [LL_self, LL_self]
        exact LL_ne (inr_ne h) _ _
theorem rank_lt (told : List Sg) (p q : Sg) : PySem.W.dataLt (d2 (lrank told p)) (d2 (lrank told q)) = PySem.W.dataLt (d3 (prank told p)) (d3 (prank told q)) := by
  show LL (PySem.W.keyToks _) (PySem.W.keyToks _) = LL (PySem.W.keyToks _) (PySem.W.keyToks _)
  rw [toks_d2, toks_d2, toks_d3, toks_d3]
  by_cases h : p = q
  · subst h
    exact (PyProof.Rows.lex_irrefl _).trans (PyProof.Rows.lex_irrefl _).symm
  · obtain ⟨v, h1, h2⟩ := core (told := told) h
    rw [LL_self, LL_self (.inl 1) (.inl (prank told p).a :: _), h1, h2]
theorem turn_eq (told : List Sg) (last p : Sg) : (if lturn 3 told last p = true then (1 : Int) else 0) = (rrank told p last).1 := by
  have e : lturn 3 told last p = !rturn told p last := by
    unfold lturn rturn
    rw [rank_lt]
    cases decide (last = ⟨[]⟩) <;> rfl
  unfold rrank
  rw [e]
  cases rturn told p last <;> rfl
/-- behind the ranks -/
theorem tails {told : List Sg} (x y : Row) (r' t' : List (Int ⊕ List Nat)) (h : x.a = y.a → LL r' t' = LL [.inl x.c, .inl 1, .inr x.b.l, .inl 0] [.inl y.c, .inl 1, .inr y.b.l, .inl 0]) :
    LL [.inl (lrank told x.a).1, .inl 1, .inr (lrank told x.a).2.l, .inl 1, .inl x.c, .inl 1, .inr x.a.l, .inl 1, .inr x.b.l, .inl 0] [.inl (lrank told y.a).1, .inl 1, .inr (lrank told y.a).2.l, .inl 1, .inl y.c, .inl 1, .inr y.a.l, .inl 1, .inr y.b.l, .inl 0] =
    LL (.inl (prank told x.a).a :: .inl 1 :: .inl (prank told x.a).b :: .inl 1 :: .inr (prank told x.a).c.l :: r') (.inl (prank told y.a).a :: .inl 1 :: .inl (prank told y.a).b :: .inl 1 :: .inr (prank told y.a).c.l :: t') := by
  by_cases e : x.a = y.a
  · have h := h e
    rw [← e]
    simp only [LL_self]
    rw [h]
    refine LL_step fun _ => ?_
    simp only [LL_self]
  · obtain ⟨v, h1, h2⟩ := core (told := told) e
    rw [h1, h2]
theorem six_le (kind : Int) (told : List Sg) (last : Sg) (hk : 0 ≤ kind ∧ kind ≤ 3) (x y : Row) : PySem.W.dataLt (dSix (six kind told last x)) (dSix (six kind told last y)) = PySem.W.dataLt (keyOf (ruleOf kind told) last x) (keyOf (ruleOf kind told) last y) := by
  show LL (PySem.W.keyToks _) (PySem.W.keyToks _) = LL (PySem.W.keyToks _) (PySem.W.keyToks _)
  by_cases h2 : 2 ≤ kind
  · have e6 : ∀ r : Row, six kind told last r = ⟨if lturn kind told last r.a = true then 1 else 0, (lrank told r.a).1, (lrank told r.a).2, r.c, r.a, r.b⟩ := fun r => if_pos h2
    by_cases h3 : kind = 2
    · subst h3
      have et : ∀ r : Row, six 2 told last r = ⟨0, (lrank told r.a).1, (lrank told r.a).2, r.c, r.a, r.b⟩ := fun r => e6 r
      rw [et, et, toks_six, toks_six]
      show _ = LL (PySem.W.keyToks (dRank told x)) (PySem.W.keyToks (dRank told y))
      rw [toks_rank, toks_rank]
      simp only [LL_self]
      refine tails x y _ _ fun _ => ?_
      simp only [LL_self]
    · have h3 : kind = 3 := by omega
      subst h3
      rw [e6, e6, turn_eq, turn_eq, toks_six, toks_six]
      show _ = LL (PySem.W.keyToks (dRoun told last x)) (PySem.W.keyToks (dRoun told last y))
      rw [toks_roun, toks_roun]
      simp only [LL_self]
      refine LL_step fun _ => ?_
      simp only [LL_self]
      refine tails x y _ _ fun _ => ?_
      simp only [LL_self]
  · have e6 : ∀ r : Row, six kind told last r = ⟨0, 0, ⟨[]⟩, r.c, r.a, r.b⟩ := fun r => if_neg h2
    have ek : keyOf (ruleOf kind told) last = dRule := by
      rcases (by omega : kind = 0 ∨ kind = 1) with rfl | rfl <;> rfl
    rw [e6, e6, ek, toks_six, toks_six, toks_rule, toks_rule]
    simp only [LL_self]
theorem ordered_due {kind : Int} {told : List Sg} {last : Sg} {ws : List Row} (hk : 0 ≤ kind ∧ kind ≤ 3) : ordered (ruleOf kind told) last ws = due kind told last ws := by
  unfold ordered due
  have le1 : ∀ (f : Row → PyData) (a b : Row), PySem.W.dataLe false f a b = !PySem.W.dataLt (f b) (f a) := fun _ _ _ => rfl
  have m1 := PySem.W.sort_maps (r := PySem.W.dataLe false fun r => dSix (six kind told last r)) (s := PySem.W.dataLe false dSix) (six kind told last) (l := ws) fun _ _ _ _ => rfl
  have m2 : ws.mergeSort (PySem.W.dataLe false fun r => dSix (six kind told last r)) = ws.mergeSort (PySem.W.dataLe false (keyOf (ruleOf kind told) last)) := PySem.W.sort_congr fun a _ b _ => by
    rw [le1, le1, six_le kind told last hk]
  rw [← m1, m2, List.map_map]
  conv => lhs; rw [← List.map_id (ws.mergeSort (PySem.W.dataLe false (keyOf (ruleOf kind told) last)))]
  refine List.map_congr_left fun r _ => ?_
  show r = _
  unfold six
  by_cases h2 : 2 ≤ kind
  · simp only [Function.comp, if_pos h2]
  · simp only [Function.comp, if_neg h2]
end K22
namespace K22
open PySem PySem.Spec PyProof.Rows L2 Lw ClX LamX NdefX
variable {P : Program} {w : World} {K : PySem.W.Frag} {mg : Str → Option Value} {base : Heap}
/-! ### rule.order(..), whatever rule -/
theorem pe_or2 {X : Cx} {e : Expr} {t u : TE} (h1 : PE X e t) (h2 : PE X e u) : PE X e (fun σ H Q => t σ H Q ∨ u σ H Q) := ⟨fun pins s σ H Q I h => h.elim (fun q => h1.run pins s σ H Q I q) fun q => h2.run pins s σ H Q I q⟩
def tOrder (K : PySem.W.Frag) (to : TE) (t : TA) : TE := fun σ H Q =>
  (tMeth (cRule K) "order" (SpW K (a_ord K (fun x => x = .rule) [])) [] E0 to t σ H Q ∨ tMeth (cSoon K) "order" (SpW K (a_ord K (fun x => x = .soonest) [])) [] E0 to t σ H Q) ∨
  (tMeth (cRank K) "order" (SpW K (a_ord K (fun x => ∃ t, x = .ranked t) [oRank K])) [] E0 to t σ H Q ∨ tMeth (cRoun K) "order" (SpW K (a_ord K (fun x => ∃ t, x = .rounds t) [oRoun K])) [] E0 to t σ H Q)
theorem pe_order {X : Cx} {o e : Expr} {es : List Expr} {ta : TE} {t : TA} {apos pos : Pos} {pl : Sem Bool} (E : FX X.K X.mg) (hPr : ThisP X.prog) (hT : TB2 X.base X.mg X.K) (hr : Room 5 X.A) (he : PE X o ta) (ha : PA X (e :: es) t)
    (hst : starEach (e :: es) X.env = (false, eval e X.env) :: starEach es X.env := by rfl) (hpl : (backTo pos (starEach es X.env)).any (·.1) = false := by rfl)
    (ht : eval (.Call (.Attribute o "order" apos) (e :: es) [] pos) X.env = (do
      let ov ← eval o X.env
      standAt apos.atName
      let (f, first) ← holding [ov] (getMethod ov "order" pl)
      callWith pos f first (backTo pos (starEach (e :: es) X.env)) (backToKw pos (keywordEach [] X.env))) := by rfl) :
    PE X (.Call (.Attribute o "order" apos) (e :: es) [] pos) (tOrder X.K ta t) :=
  pe_or2 (pe_or2 (pe_m (ok_orderRule E hPr) (hr.mono (by decide)) he ha hst hpl ht) (pe_m (ok_orderSoon E hPr) (hr.mono (by decide)) he ha hst hpl ht))
    (pe_or2 (pe_m (ok_orderRank E hPr hT) (hr.mono (by decide)) he ha hst hpl ht) (pe_m (ok_orderRoun E hPr hT) hr he ha hst hpl ht))
section
variable {env : Lw.Env K} {more : Os} {to : TE} {t : TA} {b : Bs} {g h : Hp} {σ : L2.St} {D : Ends} {i : Nat}
theorem ord_call {x : RV} {ws : List Row} {last : Sg} {Q : VK} (s : S0 b g h σ env (oRank K :: oRoun K :: more)) (ha : Ev to env (oRank K :: oRoun K :: more) x) (e : EvA t env (oRank K :: oRoun K :: more) [sv ws, sv last]) (hl : ws.length ≤ 1000000)
    (k : ∀ l g' h', b.h l = none → S0 b g' h' σ env ((oRank K :: oRoun K :: more) ++ [(l, Own.lst K (ordered x last ws))]) → Same g g' → Q (.ref l) h') : tOrder K to t σ h Q := by
  have go : ∀ (os0 rest : Os) {l : Addr} {g' h' : Hp} {W : Own}, (∀ p ∈ os0 ++ [(l, W)], p.1 ∈ os0.map (·.1) ∨ b.h p.1 = none) → S0 b g' h' σ env ((os0 ++ [(l, W)]) ++ rest) → b.h l = none := fun os0 rest l g' h' W hf s' => by
    rcases hf (l, W) (List.mem_append_right _ List.mem_cons_self) with z | z
    · exfalso
      have nd := s'.nd
      rw [List.map_append, List.map_append] at nd
      have nd := (List.nodup_append.mp nd).1
      exact (List.nodup_append.mp nd).2.2 _ z _ (by simp) rfl
    · exact z
  cases x with
  | rule =>
    refine .inl (.inl (cw_meth (P := fun (v : V) osz => ∃ l, v = .ref l ∧ osz = [] ++ [(l, Own.lst K (ordered .rule last ws))]) [] _ s (List.Perm.refl _) ha (rv_ins (x := .rule)) rfl e ⟨.rule, ws, last, rfl, rfl, ⟨rfl, hl⟩, fun l => ⟨l, rfl, rfl⟩⟩ fun v z osz g' h' hz hf s' ee r => ?_))
    obtain ⟨l, rfl, rfl⟩ := hz
    cases r
    exact k l g' h' (go [] _ hf s') (s'.perm (List.perm_append_comm (l₁ := [(l, _)]))) ee
  | soonest =>
    refine .inl (.inr (cw_meth (P := fun (v : V) osz => ∃ l, v = .ref l ∧ osz = [] ++ [(l, Own.lst K (ordered .soonest last ws))]) [] _ s (List.Perm.refl _) ha (rv_ins (x := .soonest)) rfl e ⟨.soonest, ws, last, rfl, rfl, ⟨rfl, hl⟩, fun l => ⟨l, rfl, rfl⟩⟩ fun v z osz g' h' hz hf s' ee r => ?_))
    obtain ⟨l, rfl, rfl⟩ := hz
    cases r
    exact k l g' h' (go [] _ hf s') (s'.perm (List.perm_append_comm (l₁ := [(l, _)]))) ee
  | ranked told =>
    refine .inr (.inl (cw_meth (P := fun (v : V) osz => ∃ l, v = .ref l ∧ osz = [oRank K] ++ [(l, Own.lst K (ordered (.ranked told) last ws))]) [oRank K] (oRoun K :: more) s (List.Perm.refl _) ha (rv_ins (x := .ranked told)) rfl e ⟨.ranked told, ws, last, rfl, rfl, ⟨⟨told, rfl⟩, hl⟩, fun l => ⟨l, rfl, rfl⟩⟩ fun v z osz g' h' hz hf s' ee r => ?_))
    obtain ⟨l, rfl, rfl⟩ := hz
    cases r
    exact k l g' h' (go [oRank K] _ hf s') (s'.perm ((List.perm_append_comm (l₁ := [(l, _)]) (l₂ := oRoun K :: more)).cons _)) ee
  | rounds told =>
    refine .inr (.inr (cw_meth (P := fun (v : V) osz => ∃ l, v = .ref l ∧ osz = [oRoun K] ++ [(l, Own.lst K (ordered (.rounds told) last ws))]) [oRoun K] (oRank K :: more) s (List.Perm.swap _ _ _) ha (rv_ins (x := .rounds told)) rfl e ⟨.rounds told, ws, last, rfl, rfl, ⟨⟨told, rfl⟩, hl⟩, fun l => ⟨l, rfl, rfl⟩⟩ fun v z osz g' h' hz hf s' ee r => ?_))
    obtain ⟨l, rfl, rfl⟩ := hz
    cases r
    exact k l g' h' (go [oRoun K] _ hf s') (s'.perm (((List.perm_append_comm (l₁ := [(l, _)]) (l₂ := oRank K :: more)).cons _).trans (List.Perm.swap _ _ _))) ee
theorem ew_ord {x : RV} {ws : List Row} {last : Sg} (ha : Ev to env (oRank K :: oRoun K :: more) x) (e : EvA t env (oRank K :: oRoun K :: more) [sv ws, sv last]) (hl : ws.length ≤ 1000000) : EvW (tOrder K to t) env (oRank K :: oRoun K :: more) (fun ys => ys = ordered x last ws) := .mk fun {b g h σ os2 Q} s q =>
  ord_call (more := more ++ os2) s (fun {b g h σ Q} s k => ha (show S0 b g h σ env ((oRank K :: oRoun K :: more) ++ os2) from s).drop k) (fun {b g h σ Q} s k => e (show S0 b g h σ env ((oRank K :: oRoun K :: more) ++ os2) from s).drop k) hl fun l g' h' nb s' ee => by
    obtain ⟨g2, s2, e2, r2⟩ := S0.toVal s' nb
    exact q _ _ g2 h' rfl s2 (ee.trans e2) r2
theorem st_setOrd {x : RV} {ws : List Row} {last : Sg} (s : S0 b g h σ env (oRank K :: oRoun K :: more)) (ha : Ev to env (oRank K :: oRoun K :: more) x) (e : EvA t env (oRank K :: oRoun K :: more) [sv ws, sv last]) (hl : ws.length ≤ 1000000)
    (k : ∀ l g' h', S0 b g' h' (σ.set i (some (.ref l))) (env.set i (sv (V.ref l))) ((oRank K :: oRoun K :: more) ++ [(l, Own.lst K (ordered x last ws))]) → D.nx (σ.set i (some (.ref l))) h') : tAsg (tOrder K to t) (gName i) D σ h :=
  ord_call s ha e hl fun l g' h' _ s' _ => k l g' h' (s'.set ⟨_, rfl, rfl⟩)
end
/-! ### alike -/
def okR (r : Row) : Prop := (r.a.l.all (· < 0x110000) = true) ∧ (r.b.l.all (· < 0x110000) = true)
theorem okR_d {ws : List Row} (h : ∀ r ∈ ws, okR r) : (inferInstance : PyD K (List Row) 2).ok ws := fun r hr => ⟨(h r hr).1, (h r hr).2, trivial⟩
theorem okR_1 {r : Row} (h : okR r) : (inferInstance : PyD K Row 1).ok r := ⟨h.1, h.2, trivial⟩
def a_same (K : PySem.W.Frag) : List (Slot K) → (Bool → Prop) → Prop := fun xs P => ∃ x y : List Row, xs = [sv x, sv y] ∧ ((∀ r ∈ x, okR r) ∧ ∀ r ∈ y, okR r) ∧ ∀ c : Bool, (c = true ↔ x = y) → P c
theorem sc_law_same : FnScope ["found", "due", "row"] ["found", "due"] (defScope (topS 17)) := ⟨rfl, rfl, rfl, by decide +kernel, rfl, by decide +kernel, by decide +kernel⟩
theorem ok_law_same (E : FX K mg) (hPr : ThisP P) : Cal P w K mg base "_law_same" 1 ["found", "due"] (SpR K (a_same K)) := by
  refine E.cal 11 15 (st := (topS 17)) rfl rfl (fun _ _ _ _ _ _ us hl => match us, hl with | [_, _], _ => rfl) fun f fd F => okRD F sc_law_same (fun xs P' h => ?_) (fun cdv Ar outer s0 H0 E0 hr xs P' h => ?_)
  · obtain ⟨_, _, rfl, _⟩ := h; rfl
  · obtain ⟨x, y, rfl, ⟨hx, hy⟩, hP⟩ := h
    refine ⟨_, (pss_cons (ps_if (PW.pt (pw_or (pt_not (pt_val (pe_callB (isiK K) (by rfl) (E.free 27) (by decide +kernel) (pa_cons (pv 0) (pa_cons (pe_bltn (v := .ty "list") (u := .type "list") (by rfl) (E.free 21) (by decide +kernel) rfl) pa_nil))))) (pw_or1 (pt_cmpR (neDK K hr.units) (pv 0) (pv 1) (nomark _))))) (pss_one (ps_ret pe_bl)) pss_nil)
    (pss_cons (ps_for PassesOwn.never rfl (pi_listK K (pv 0)) (pg_name (i := 2) sc_law_same.nd rfl (.inl rfl))
      (pss_one (ps_if (PW.pt (pw_or (pt_not (pt_val (pe_callB (isiK K) (by rfl) (E.free 27) (by decide +kernel) (pa_cons (pv 2) (pa_cons (pe_bltn (v := .ty "tuple") (u := .type "tuple") (by rfl) (E.free 29) (by decide +kernel) rfl) pa_nil))))) (pw_or (pt_not (pt_val (pe_callB (isiK K) (by rfl) (E.free 27) (by decide +kernel) (pa_cons (pe_ix (ix_tupK K) (pv 2) pe_int (fun _ _ => rfl)) (pa_cons (pe_bltn (v := .ty "int") (u := .type "int") (by rfl) (E.free 25) (by decide +kernel) rfl) pa_nil))))) (pw_or1 (pt_val (pe_callB (isiK K) (by rfl) (E.free 27) (by decide +kernel) (pa_cons (pe_ix (ix_tupK K) (pv 2) pe_int (fun _ _ => rfl)) (pa_cons (pe_bltn (v := .ty "bool") (u := .type "bool") (by rfl) (E.free 28) (by decide +kernel) rfl) pa_nil)))))))) (pss_one (ps_ret pe_bl)) pss_nil)))
    (pss_one (ps_ret pe_bl)))) , fun g σ Q s fin => ?_⟩
    have hb : ∃ c : Bool, c = true ↔ x = y := by
      by_cases e : x = y
      · exact ⟨true, by simp [e]⟩
      · exact ⟨false, by simp [e]⟩
    obtain ⟨c0, hc0⟩ := hb
    refine st_if s (et_or (et_not (et_B (ev_isi (α := List Row) (T0 := "list") (c := true) (ev_var rfl)))) fun _ => (et_test (ev_neD (ev_var rfl) (ev_var rfl) hc0 (okR_d hx) (okR_d hy)))) (fun hc g h s => ?_) (fun hc g h s => ?_)
    · have e : c0 = false := by simpa using hc
      rw [e] at hc0
      exact st_ret s ev_bl fun v g h s r => fin v false g h _ _ _ (hP false hc0) s r
    · have e : c0 = true := by simpa using hc
      rw [e] at hc0
      dsimp only [tNext]
      refine st_for_list tgt_name s (ev_var (x := x) rfl) (fun n e o => ∃ s2 : Slot K, e = [sv x, sv y, s2] ∧ o = []) ⟨_, rfl, rfl⟩ (fun n r hx c hls e o g h σ N hI back s hN => ?_) (fun e o g h σ hI s => ?_)
      · obtain ⟨s2, rfl, rfl⟩ := hI
        refine st_if s (et_or (et_not (et_B (ev_isi (α := Row) (T0 := "tuple") (c := true) (ev_var rfl)))) fun _ => (et_or (et_not (et_B (ev_isi (α := Int) (T0 := "int") (c := true) (ev_ixC (ev_var (x := r) rfl))))) fun _ => (et_B (ev_isi (α := Int) (T0 := "int") (c := false) (ev_ixC (ev_var (x := r) rfl)))))) (fun hc g h s => ?_) (fun hc g h s => ?_)
        · simp at hc
        · exact hN _ _ _ _ _ ⟨_, rfl, rfl⟩ s
      · obtain ⟨s2, rfl, rfl⟩ := hI
        try dsimp only
        exact st_ret s ev_bl fun v g h s r => fin v true g h _ _ _ (hP true hc0) s r
/-- .. asked of what a rule gives -/
theorem ewt_same {env : Lw.Env K} {os : Os} {ta tb : TE} {x y : List Row} {E : XK} (ha : EvW ta env os (fun z => z = x)) (hb : Ev tb env os y) (hx : ∀ r ∈ x, okR r) (e : x = y) : EvTW (tNot (tB (tCall (SpR K (a_same K)) [] E (tCons ta (tCons tb tNil))))) env os (fun c => c = false) :=
  ewt_notT (ewt_B (ew_call (P := fun c => c = true) (eaw_cons ha (eaw_cons (Ev.w hb) eaw_nil)) fun xs hxs => by
    obtain ⟨z, _, rfl, ⟨z2, _, rfl, rfl, rfl⟩, rfl⟩ := hxs
    subst e
    exact ⟨z, z, rfl, ⟨hx, hx⟩, fun c hc => hc.mpr rfl⟩))
end K22
namespace K22
open PySem PySem.Spec PyProof.Rows L2 Lw ClX LamX NdefX
variable {P : Program} {w : World} {K : PySem.W.Frag} {mg : Str → Option Value} {base : Heap}
abbrev OT (K : PySem.W.Frag) : Os := [oRank K, oRoun K]
abbrev dRow (r : Row) : PyData := .tuple [.str r.a.s, .str r.b.s, .int r.c]
def eqR (x y : Row) : Bool := PyData.eqv (dRow x) (dRow y)
theorem eqR_iff {x y : Row} : eqR x y = true ↔ x = y := (inferInstance : PyD ([] : PySem.W.Frag) Row 1).eq
theorem due_mem {kind : Int} {told : List Sg} {last : Sg} {ws : List Row} (hk : 0 ≤ kind ∧ kind ≤ 3) {r : Row} : r ∈ due kind told last ws ↔ r ∈ ws := by
  rw [← ordered_due hk]
  exact List.mem_mergeSort
theorem due_len {kind : Int} {told : List Sg} {last : Sg} {ws : List Row} : (due kind told last ws).length = ws.length := by
  unfold due
  rw [List.length_map, List.length_mergeSort, List.length_map]
theorem drop_len {x : Row} : ∀ {l : List Row}, l.Nodup → x ∈ l → (l.filter fun r => !eqR r x).length + 1 = l.length
  | [], _, h => by simp at h
  | y :: l, nd, h => by
    obtain ⟨n1, n2⟩ := List.nodup_cons.mp nd
    by_cases e : y = x
    · subst e
      have h0 : eqR y y = true := eqR_iff.mpr rfl
      rw [List.filter_cons_of_neg (by simp [h0])]
      have : (l.filter fun r => !eqR r y) = l := List.filter_eq_self.mpr fun r hr => by
        have : eqR r y = false := by
          cases q : eqR r y with
          | false => rfl
          | true => exact absurd ((eqR_iff.mp q) ▸ hr) n1
        rw [this]; rfl
      rw [this]; rfl
    · have h0 : eqR y x = false := by
        cases q : eqR y x with
        | false => rfl
        | true => exact absurd (eqR_iff.mp q) e
      rw [List.filter_cons_of_pos (by simp [h0])]
      have hx : x ∈ l := (List.mem_cons.mp h).resolve_left fun z => e z.symm
      rw [List.length_cons, List.length_cons, drop_len n2 hx]
def good (kind : Int) (ws : List Row) : Prop := (0 ≤ kind ∧ kind ≤ 3) ∧ (∀ r ∈ ws, okR r) ∧ ws.Nodup ∧ ws.length ≤ 1000
def a_steps (K : PySem.W.Frag) : List (Slot K) → Os → (Bool → Os → Prop) → Prop := fun xs os P => ∃ (kind : Int) (told : List Sg) (ws : List Row), xs = [sv (ruleOf kind told), sv kind, sv told, sv ws] ∧ os = OT K ∧ good kind ws ∧ P true os
theorem sc_law_steps : FnScope ["rule", "kind", "told", "waiting", "left", "last", "step", "due", "row"] ["rule", "kind", "told", "waiting"] (defScope (topS 18)) := ⟨rfl, rfl, rfl, by decide +kernel, rfl, by decide +kernel, by decide +kernel⟩
theorem ok_law_steps (E : FX K mg) (hPr : ThisP P) (hT : TB2 base mg K) : Cal P w K mg base "_law_steps" 7 ["rule", "kind", "told", "waiting"] (SpW K (a_steps K)) := by
  refine E.cal 12 16 (st := (topS 18)) rfl rfl (fun _ _ _ _ _ _ us hl => match us, hl with | [_, _, _, _], _ => rfl) fun f fd F => okWD F sc_law_steps (fun xs os P' h => ?_) (fun cdv Ar outer s0 H0 E0 hr xs os P' h => ?_)
  · obtain ⟨_, _, _, rfl, _⟩ := h; rfl
  · obtain ⟨kind, told, ws, rfl, rfl, ⟨hk, hok, hnd, hz⟩, hP⟩ := h
    refine ⟨_, (pss_cons (ps_set (i := 4) sc_law_steps.nd rfl (.inl rfl) (pe_callTy (list_ofK K) (by rfl) (E.free 21) (by decide +kernel) (pa_cons (pv 3) pa_nil)))
    (pss_cons (ps_set (i := 5) sc_law_steps.nd rfl (.inl rfl) pe_str)
    (pss_cons (ps_for PassesOwn.never rfl (pi_range1 rfl (E.free 20) (pa_cons (pe_callB (call_min2 rfl) (by rfl) (E.free 26) (by decide +kernel) (pa_cons pe_int (pa_cons (pe_callB (len_seqK K) (by rfl) (E.free 23) (by decide +kernel) (pa_cons (pv 3) pa_nil)) pa_nil))) pa_nil)) (pg_name (i := 6) sc_law_steps.nd rfl (.inl rfl))
      (pss_cons (ps_set (i := 7) sc_law_steps.nd rfl (.inr rfl) (pe_c (ok_law_due E hPr) (hr.mono (by decide)) rfl (pa_cons (pv 1) (pa_cons (pv 2) (pa_cons (pv 4) (pa_cons (pv 5) pa_nil))))))
    (pss_cons (ps_if (pt_not (pt_val (pe_c (ok_law_same E hPr) (hr.mono (by decide)) rfl (pa_cons (pe_order E hPr hT (hr.mono (by decide)) (pv 0) (pa_cons (pe_callTy (list_ofK K) (by rfl) (E.free 21) (by decide +kernel) (pa_cons (pv 4) pa_nil)) (pa_cons (pv 5) pa_nil))) (pa_cons (pv 7) pa_nil))))) (pss_one (ps_ret pe_bl)) pss_nil)
    (pss_cons (ps_setLc (i := 4) (own := [("row", 8)]) (g := gName 8) rfl sc_law_steps.nd rfl rfl (sw_true rfl rfl rfl (by decide +kernel)) (pi_listK K (pv 4)) (blkOk_by (N := ["rule", "kind", "told", "waiting", "left", "last", "step", "due", "row"]) (sc := defScope (topS 18)) (own := [("row", 8)]) (by decide +kernel)) (fun _ _ _ _ _ => (pg_name (i := 8) sc_law_steps.nd rfl (Or.inl rfl))) (fun _ _ _ _ _ => (pts_one (pt_cmpR (neDK K hr.units) (pv 8) (pe_ix (ix_listK K) (pv 7) pe_int (fun _ _ => rfl)) (nomark _)))) (fun _ _ _ _ _ => (pv 8)))
    (pss_one (ps_set (i := 5) sc_law_steps.nd rfl (.inl rfl) (pe_ix (ix_tupK K) (pe_ix (ix_listK K) (pv 7) pe_int (fun _ _ => rfl)) pe_int (fun _ _ => rfl))))))))
    (pss_one (ps_ret pe_bl))))) , fun g σ Q s fin => ?_⟩
    refine st_set s (ev_listL (ev_var (x := ws) rfl)) (fun v g h s => ?_)
    try dsimp only
    refine st_set s (ev_lit (l := [])) (fun v g h s => ?_)
    try dsimp only
    refine st_for_range s (ev_min2 ev_int (ev_lenL (ev_var (x := ws) rfl))) (by omega) (by omega) (fun k e o => ∃ (left : List Row) (last : Sg) (s6 s7 s8 : Slot K), e = [sv (ruleOf kind told), sv kind, sv told, sv ws, sv left, sv last, s6, s7, s8] ∧ o = OT K ∧ left.length + k = ws.length ∧ (∀ r ∈ left, r ∈ ws) ∧ left.Nodup) ⟨ws, ⟨[]⟩, _, _, _, rfl, rfl, rfl, fun _ h => h, hnd⟩ (fun k hk2 c hls e o g h σ N hI back s hN => ?_) (fun e o g h σ hI s => ?_)
    · obtain ⟨left, last, s6, s7, s8, rfl, rfl, hlen, hsub, hnl⟩ := hI
      try dsimp only
      refine st_set s (ev_call (z := due kind told last left) (ea_cons (ev_var (x := kind) rfl) (ea_cons (ev_var (x := told) rfl) (ea_cons (ev_var (x := left) rfl) (ea_cons (ev_var (x := last) rfl) ea_nil)))) ⟨kind, told, left, last, rfl, by omega, rfl⟩) (fun v g h s => ?_)
      try dsimp only
      refine st_ifW s (ewt_same (ew_ord (ev_var (x := ruleOf kind told) rfl) (ea_cons (ev_listL (ev_var (x := left) rfl)) (ea_cons (ev_var (x := last) rfl) ea_nil)) (by omega)) (ev_var (x := due kind told last left) rfl) (fun r hr => hok r (hsub r (List.mem_mergeSort.mp hr))) (ordered_due hk)) (fun hc g h s => nomatch hc) (fun hc g h s => ?_)
      dsimp only [tNext]
      have hl0 : 0 < (due kind told last left).length := by rw [due_len]; omega
      obtain ⟨d0, hd0⟩ : ∃ d0, (due kind told last left)[0]? = some d0 := ⟨_, List.getElem?_eq_getElem hl0⟩
      have hdm : d0 ∈ left := (due_mem hk).mp (List.mem_of_getElem? hd0)
      have hat : atI (due kind told last left) 0 = some d0 := atI_int (by decide) hd0
      have hfl := drop_len hnl hdm
      refine st_set s (EvN.ev (en_lcL (xs := left) (p := fun r => !eqR r d0) (m := fun r => r) tgt_name (ev_var (x := left) rfl) (fun r hr => et_test (ev_neD (ev_var (x := r) rfl) (ev_ixL (ev_var (x := due kind told last left) rfl) ev_int hat) eqR_iff (okR_1 (hok r (hsub r hr))) (okR_1 (hok d0 (hsub d0 hdm))))) (fun r hr _ => ev_var (x := r) rfl) (by omega))) (fun v g h s => ?_)
      try dsimp only
      refine st_set s (ev_ixA (ev_ixL (ev_var (x := due kind told last left) rfl) ev_int hat)) (fun v g h s => ?_)
      rw [List.map_id'] at s
      refine hN _ _ _ _ _ ⟨left.filter fun r => !eqR r d0, d0.a, _, _, _, rfl, rfl, by omega, fun r hr => hsub r (List.mem_filter.mp hr).1, hnl.filter _⟩ s
    · obtain ⟨left, last, s6, s7, s8, rfl, rfl, hlen, hsub, hnl⟩ := hI
      try dsimp only
      exact st_ret s ev_bl fun v g h s r => fin v true g h _ _ _ _ hP (fun p hp => hp) s (by exact s.nd) r
/-! ### one kind of rule -/
def okS (x : Sg) : Prop := x.l.all (· < 0x110000) = true
theorem eqv_told {t u : List Sg} : PyData.eqv ((inferInstance : PyD K (TupF Sg) 1).d (TupF.mk t)) ((inferInstance : PyD K (Tup Sg) 1).d (Tup.mk t)) = true := by
  show PyData.eqv (.tuple (t.map fun x => .str x.s)) (.tuple (t.map fun x => .str x.s)) = true
  exact (inferInstance : PyD K (Tup Sg) 1).eq.mpr (rfl : Tup.mk t = Tup.mk t)
section
variable {env : Lw.Env K} {os : Os} {ta tb : TE}
theorem ev_told {fa : List He.Fa} {mg : Str → Option Value} (E : FX K mg) {kind : Int} {t : List Sg} (hk : kind ≤ 3) (h2 : 2 ≤ kind) (ha : Ev ta env os (ruleOf kind t)) : Ev (tFld K ta "plans_told") env os (TupF.mk t) := by
  rcases (by omega : kind = 2 ∨ kind = 3) with rfl | rfl
  · exact ev_fld ha (rv_ins (x := .ranked t)) (E.cls 34 (x := "Ranked") rfl) (E.noat 37 rfl) rfl
  · exact ev_fld ha (rv_ins (x := .rounds t)) (E.cls 38 (x := "Rounds") rfl) (E.noat 41 rfl) rfl
/-- .. is a tuple of them -/
theorem et_told {mg : Str → Option Value} (E : FX K mg) {kind : Int} {t : List Sg} (hk : kind ≤ 3) (h2 : 2 ≤ kind) (ht : ∀ x ∈ t, okS x) (ha : Ev ta env os (ruleOf kind t)) (hb : Ev tb env os (Tup.mk t)) :
    EvT (tOr (tNot (tB (tCB (rIsi K) (tCons (tFld K ta "plans_told") (tCons (tC (.ty "tuple")) tNil))))) (tTest (tOp (rNeD K) (tFld K ta "plans_told") tb))) env os false :=
  et_or (et_not (et_B (ev_isi (α := TupF Sg) (T0 := "tuple") (c := true) (ev_told (fa := fa) E hk h2 ha)))) fun _ => (et_test (ev_neD2 (ev_told (fa := fa) E hk h2 ha) hb true (eqv_told (u := t)) ht ht))
end
def a_holds (K : PySem.W.Frag) : List (Slot K) → Os → (Bool → Os → Prop) → Prop := fun xs os P => ∃ (kind : Int) (told : List Sg) (ws : List Row) (last : Sg), xs = [sv kind, sv told, sv ws, sv last] ∧ os = OT K ∧ (good kind ws ∧ told.length ≤ 6 ∧ ∀ x ∈ told, okS x) ∧ P true os
theorem sc_law_holds : FnScope ["kind", "told", "waiting", "last", "rule", "other", "due", "handed", "found"] ["kind", "told", "waiting", "last"] (defScope (topS 19)) := ⟨rfl, rfl, rfl, by decide +kernel, rfl, by decide +kernel, by decide +kernel⟩
theorem ok_law_holds (E : FX K mg) (hPr : ThisP P) (hT : TB2 base mg K) : Cal P w K mg base "_law_holds" 8 ["kind", "told", "waiting", "last"] (SpW K (a_holds K)) := by
  refine E.cal 13 17 (st := (topS 19)) rfl rfl (fun _ _ _ _ _ _ us hl => match us, hl with | [_, _, _, _], _ => rfl) fun f fd F => okWD F sc_law_holds (fun xs os P' h => ?_) (fun cdv Ar outer s0 H0 E0 hr xs os P' h => ?_)
  · obtain ⟨_, _, _, _, rfl, _⟩ := h; rfl
  · obtain ⟨kind, told, ws, last, rfl, rfl, ⟨⟨hk, hok, hnd, hz⟩, ht6, htk⟩, hP⟩ := h
    refine ⟨_, (pss_cons (ps_set (i := 4) sc_law_holds.nd rfl (.inl rfl) (pe_c (ok_law_rule E hPr) (hr.mono (by decide)) rfl (pa_cons (pv 0) (pa_cons (pv 1) pa_nil))))
    (pss_cons (ps_set (i := 5) sc_law_holds.nd rfl (.inl rfl) (pe_c (ok_law_rule E hPr) (hr.mono (by decide)) rfl (pa_cons (pv 0) (pa_cons (pe_slice (sl_listK K) (pv 1) (po_some pe_int) po_none) pa_nil))))
    (pss_cons (ps_if (PW.pt (pw_or (pt_not (pt_val (pe_callB (isRule E) (by rfl) (E.free 27) (by decide +kernel) (pa_cons (pv 4) (pa_cons (pe_glob (v := .ref (He.ga K "Rule")) rfl (E.gref 3 (x := "Rule") rfl) rfl) pa_nil))))) (pw_or1 (pt_not (pt_val (pe_callB (isRule E) (by rfl) (E.free 27) (by decide +kernel) (pa_cons (pv 5) (pa_cons (pe_glob (v := .ref (He.ga K "Rule")) rfl (E.gref 3 (x := "Rule") rfl) rfl) pa_nil)))))))) (pss_one (ps_ret pe_bl)) pss_nil)
    (pss_cons (ps_set (i := 6) sc_law_holds.nd rfl (.inl rfl) (pe_c (ok_law_due E hPr) (hr.mono (by decide)) rfl (pa_cons (pv 0) (pa_cons (pv 1) (pa_cons (pv 2) (pa_cons (pv 3) pa_nil))))))
    (pss_cons (ps_set (i := 7) sc_law_holds.nd rfl (.inl rfl) (pe_callTy (list_ofK K) (by rfl) (E.free 21) (by decide +kernel) (pa_cons (pv 2) pa_nil)))
    (pss_cons (ps_set (i := 8) sc_law_holds.nd rfl (.inl rfl) (pe_order E hPr hT (hr.mono (by decide)) (pv 4) (pa_cons (pv 7) (pa_cons (pv 3) pa_nil))))
    (pss_cons (ps_if (PW.pt (pw_or (pt_not (pt_val (pe_c (ok_law_same E hPr) (hr.mono (by decide)) rfl (pa_cons (pv 8) (pa_cons (pv 6) pa_nil))))) (pw_or1 (pt_cmpR (neDK K hr.units) (pv 7) (pv 2) (nomark _))))) (pss_one (ps_ret pe_bl)) pss_nil)
    (pss_cons (ps_expr (pe_bm PySem.F.plainAttrs_list PySem.F.slot_list_append PySem.F.type_list_append mt_append (pv 8) (pa_cons (pe_tup (pa_cons pe_str (pa_cons pe_str (pa_cons pe_int pa_nil)))) pa_nil)))
    (pss_cons (ps_if (pt_cmpR (neDK K hr.units) (pv 7) (pv 2) (nomark _)) (pss_one (ps_ret pe_bl)) pss_nil)
    (pss_cons (ps_expr (pe_bm0 PySem.F.plainAttrs_list PySem.F.slot_list_clear PySem.F.type_list_clear mt_clear (pv 8)))
    (pss_cons (ps_if (pt_cmpR (neDK K hr.units) (pv 7) (pv 2) (nomark _)) (pss_one (ps_ret pe_bl)) pss_nil)
    (pss_cons (ps_if (pt_not (pt_val (pe_c (ok_law_same E hPr) (hr.mono (by decide)) rfl (pa_cons (pe_order E hPr hT (hr.mono (by decide)) (pv 5) (pa_cons (pe_callTy (list_ofK K) (by rfl) (E.free 21) (by decide +kernel) (pa_cons (pv 2) pa_nil)) (pa_cons (pv 3) pa_nil))) (pa_cons (pe_c (ok_law_due E hPr) (hr.mono (by decide)) rfl (pa_cons (pv 0) (pa_cons (pe_slice (sl_listK K) (pv 1) (po_some pe_int) po_none) (pa_cons (pv 2) (pa_cons (pv 3) pa_nil))))) pa_nil))))) (pss_one (ps_ret pe_bl)) pss_nil)
    (pss_cons (ps_if (pt_not (pt_val (pe_c (ok_law_steps E hPr hT) (hr.mono (by decide)) rfl (pa_cons (pv 4) (pa_cons (pv 0) (pa_cons (pv 1) (pa_cons (pv 2) pa_nil))))))) (pss_one (ps_ret pe_bl)) pss_nil)
    (pss_cons (ps_if (pt_cmpR op_ge (pv 0) pe_int (nomark _)) (pss_cons (ps_if (PW.pt (pw_or (pt_not (pt_val (pe_callB (isiK K) (by rfl) (E.free 27) (by decide +kernel) (pa_cons (pe_fld (pv 4) rfl) (pa_cons (pe_bltn (v := .ty "tuple") (u := .type "tuple") (by rfl) (E.free 29) (by decide +kernel) rfl) pa_nil))))) (pw_or1 (pt_cmpR (neDK K hr.units) (pe_fld (pv 4) rfl) (pe_callTy (tuple_ofK K) (by rfl) (E.free 29) (by decide +kernel) (pa_cons (pv 1) pa_nil)) (nomark _))))) (pss_one (ps_ret pe_bl)) pss_nil)
    (pss_one (ps_if (PW.pt (pw_or (pt_not (pt_val (pe_callB (isiK K) (by rfl) (E.free 27) (by decide +kernel) (pa_cons (pe_fld (pv 5) rfl) (pa_cons (pe_bltn (v := .ty "tuple") (u := .type "tuple") (by rfl) (E.free 29) (by decide +kernel) rfl) pa_nil))))) (pw_or1 (pt_cmpR (neDK K hr.units) (pe_fld (pv 5) rfl) (pe_callTy (tuple_ofK K) (by rfl) (E.free 29) (by decide +kernel) (pa_cons (pe_slice (sl_listK K) (pv 1) (po_some pe_int) po_none) pa_nil)) (nomark _))))) (pss_one (ps_ret pe_bl)) pss_nil))) pss_nil)
    (pss_one (ps_ret (pe_c (ok_law_same E hPr) (hr.mono (by decide)) rfl (pa_cons (pe_order E hPr hT (hr.mono (by decide)) (pv 4) (pa_cons (pe_callTy (list_ofK K) (by rfl) (E.free 21) (by decide +kernel) (pa_cons (pv 2) pa_nil)) (pa_cons (pv 3) pa_nil))) (pa_cons (pv 6) pa_nil))))))))))))))))))) , fun g σ Q s fin => ?_⟩
    have hcut : cut told (some 1) none = told.drop 1 := by
      by_cases h : 1 ≤ told.length
      · exact cut_from (by decide) (by omega)
      · have : told = [] := by
          cases told with
          | nil => rfl
          | cons a r => simp at h
        subst this; rfl
    have hd6 : (told.drop 1).length ≤ 6 := by rw [List.length_drop]; omega
    have htd : ∀ x ∈ told.drop 1, okS x := fun x hx => htk x (List.mem_of_mem_drop hx)
    have hsl : ∀ {env : Lw.Env K} {os : Os}, env[1]? = some (sv told) → Ev (tSl (rSlL K) (tVar 1) (tPart (tC (.int 1))) tNoPart) env os (told.drop 1) := fun {env os} he => hcut ▸ ev_slL (ev_var he) (eo_some ev_int) eo_none
    refine st_set s (ev_call (z := ruleOf kind told) (ea_cons (ev_var (x := kind) rfl) (ea_cons (ev_var (x := told) rfl) ea_nil)) ⟨kind, told, rfl, ht6, rfl⟩) (fun v g h s => ?_)
    try dsimp only
    refine st_set s (ev_call (z := ruleOf kind (told.drop 1)) (ea_cons (ev_var (x := kind) rfl) (ea_cons (hsl rfl) ea_nil)) ⟨kind, told.drop 1, rfl, hd6, rfl⟩) (fun v g h s => ?_)
    try dsimp only
    refine st_if s (et_or (et_not (et_B (ev_isRule (ev_var (x := ruleOf kind told) rfl)))) fun _ => (et_not (et_B (ev_isRule (ev_var (x := ruleOf kind (told.drop 1)) rfl))))) (fun hc g h s => nomatch hc) (fun hc g h s => ?_)
    dsimp only [tNext]
    refine st_set s (ev_call (z := due kind told last ws) (ea_cons (ev_var (x := kind) rfl) (ea_cons (ev_var (x := told) rfl) (ea_cons (ev_var (x := ws) rfl) (ea_cons (ev_var (x := last) rfl) ea_nil)))) ⟨kind, told, ws, last, rfl, hz, rfl⟩) (fun v g h s => ?_)
    try dsimp only
    refine st_set s (ev_listL (ev_var (x := ws) rfl)) (fun v g h s => ?_)
    try dsimp only
    refine st_setOrd (x := ruleOf kind told) (ws := ws) (last := last) s (ev_var (x := ruleOf kind told) rfl) (ea_cons (ev_var (x := ws) rfl) (ea_cons (ev_var (x := last) rfl) ea_nil)) (by omega) (fun l g h s => ?_)
    try dsimp only
    have hso : ∀ r ∈ ordered (ruleOf kind told) last ws, okR r := fun r hr => hok r (List.mem_mergeSort.mp hr)
    have hdo : ∀ r ∈ due kind told last ws, okR r := fun r hr => hok r ((due_mem hk).mp hr)
    have hlen : (ordered (ruleOf kind told) last ws).length = ws.length := List.length_mergeSort _
    refine st_if s (et_or (et_not (et_B (ev_callO (m := 2) (z := true) (xs := ordered (ruleOf kind told) last ws) (y := due kind told last ws) rfl rfl (ev_var rfl) ⟨_, _, rfl, ⟨hso, hdo⟩, fun c hc => hc.mpr (ordered_due hk)⟩))) fun _ => (et_test (ev_neD (c := true) (x := ws) (y := ws) (ev_var rfl) (ev_var rfl) (by simp) (okR_d hok) (okR_d hok)))) (fun hc g h s => nomatch hc) (fun hc g h s => ?_)
    dsimp only [tNext]
    refine st_append (m := 2) s rfl rfl (by rw [hlen, sizeLine_eq]; omega) (ev_tri (ev_lit (l := [])) (ev_lit (l := [])) ev_int) (fun g h s => ?_)
    try dsimp only
    refine st_if s (et_test (ev_neD (c := true) (x := ws) (y := ws) (ev_var rfl) (ev_var rfl) (by simp) (okR_d hok) (okR_d hok))) (fun hc g h s => nomatch hc) (fun hc g h s => ?_)
    dsimp only [tNext]
    refine st_clear (m := 2) s rfl rfl (fun g h s => ?_)
    try dsimp only
    refine st_if s (et_test (ev_neD (c := true) (x := ws) (y := ws) (ev_var rfl) (ev_var rfl) (by simp) (okR_d hok) (okR_d hok))) (fun hc g h s => nomatch hc) (fun hc g h s => ?_)
    dsimp only [tNext]
    refine st_ifW s (ewt_same (ew_ord (x := ruleOf kind (told.drop 1)) (ws := ws) (last := last) (ev_var (x := ruleOf kind (told.drop 1)) rfl) (ea_cons (ev_listL (ev_var (x := ws) rfl)) (ea_cons (ev_var (x := last) rfl) ea_nil)) (by omega)) (ev_call (z := due kind (told.drop 1) last ws) (ea_cons (ev_var (x := kind) rfl) (ea_cons (hsl rfl) (ea_cons (ev_var (x := ws) rfl) (ea_cons (ev_var (x := last) rfl) ea_nil)))) ⟨kind, told.drop 1, ws, last, rfl, hz, rfl⟩) (fun r hr => hok r (List.mem_mergeSort.mp hr)) (ordered_due hk)) (fun hc g h s => nomatch hc) (fun hc g h s => ?_)
    dsimp only [tNext]
    refine st_ifW s (ewt_notT (ewt_B (ew_callWS (P := fun c => c = true) (OT K) (EvA.w (ea_cons (ev_var (x := ruleOf kind told) rfl) (ea_cons (ev_var (x := kind) rfl) (ea_cons (ev_var (x := told) rfl) (ea_cons (ev_var (x := ws) rfl) ea_nil))))) (List.sublist_append_left (OT K) _) fun xs hxs => by
      subst hxs
      exact ⟨kind, told, ws, rfl, rfl, ⟨hk, hok, hnd, hz⟩, rfl, rfl⟩))) (fun hc g h s => nomatch hc) (fun hc g h s => ?_)
    dsimp only [tNext]
    refine st_if_cut (fun e o => e = [sv kind, sv told, sv ws, sv last, sv (ruleOf kind told), sv (ruleOf kind (told.drop 1)), sv (due kind told last ws), sv ws, sv (V.ref l)] ∧ o = OT K ++ [(l, Own.lst K ([] : List Row))]) s (et_test (ev_ib (ev_var rfl) ev_int)) (fun e o g h σ hJ s => ?_) (fun hc g h N s hN => ?_) (fun hc g h N s hN => ?_)
    · obtain ⟨rfl, rfl⟩ := hJ
      try dsimp only
      refine st_retW s (ew_call (P := fun c => c = true) (eaw_cons (ew_ord (x := ruleOf kind told) (ws := ws) (last := last) (ev_var (x := ruleOf kind told) rfl) (ea_cons (ev_listL (ev_var (x := ws) rfl)) (ea_cons (ev_var (x := last) rfl) ea_nil)) (by omega)) (eaw_cons (Ev.w (ev_var (x := due kind told last ws) rfl)) eaw_nil)) fun xs hxs => by
        obtain ⟨z, _, rfl, ⟨z2, _, rfl, rfl, rfl⟩, rfl⟩ := hxs
        exact ⟨_, _, rfl, ⟨hso, hdo⟩, fun c hc => hc.mpr (ordered_due hk)⟩) fun x hx v g h s r => ?_
      subst hx
      exact fin v true g h _ _ _ _ hP (fun p hp => List.mem_append_left _ hp) s (by have := s.nd; rw [List.map_append] at this; exact (List.nodup_append.mp this).1) r
    · have h2 : 2 ≤ kind := of_decide_eq_true hc
      refine st_if s (et_told E hk.2 h2 htk (ev_var (x := ruleOf kind told) rfl) (ev_tupleL (ev_var (x := told) rfl))) (fun hc g h s => nomatch hc) (fun hc g h s => ?_)
      dsimp only [tNext]
      refine st_if s (et_told E hk.2 h2 htd (ev_var (x := ruleOf kind (told.drop 1)) rfl) (ev_tupleL (hsl rfl))) (fun hc g h s => nomatch hc) (fun hc g h s => ?_)
      exact hN _ _ _ _ _ ⟨rfl, rfl⟩ s
    · exact hN _ _ _ _ _ ⟨rfl, rfl⟩ s
end K22
namespace K22
open PySem PySem.Spec PyProof.Rows L2 Lw ClX LamX NdefX
variable {P : Program} {w : World} {K : PySem.W.Frag} {mg : Str → Option Value} {base : Heap}
theorem u65 {k : Nat} {A : Around} (hr : Room k A) : A.units + 65 < cLine := by have := hr.un; omega
theorem gN_ok {x : Sg} (h : gN x) : okS x := List.all_eq_true.mpr fun c hc => decide_eq_true (h.2.2 c hc)
section
variable {env : Lw.Env K} {os : Os} {ta tb : TE} {α : Type} [iα : Py K α] {b : Bs} {g h : Hp} {σ : L2.St} {i m : Nat} {l : Addr}
/-- an item of a list, drawn -/
theorem ew_pick {xs : List α} {n : Int} (d : α) (ha : Ev ta env os xs) (hn : n = xs.length) (hb : EvW tb env os (fun r => 0 ≤ r ∧ r < n)) : EvW (tOp (rIxL K) ta tb) env os (fun z : α => z ∈ xs) := by
  subst hn
  have at_ : ∀ y : Int, 0 ≤ y → y < xs.length → xs[y.toNat]? = some (xs.getD y.toNat d) := fun y h0 h1 => by
    rw [List.getD_eq_getElem?_getD, List.getElem?_eq_getElem (by omega)]; rfl
  exact EvW.imp (ew_op (f := fun (x : List α) (y : Int) => x.getD y.toNat d) (Ev.w ha) hb fun x y hx hy => by
    subst hx
    exact ev_ixL (ev_var rfl) (ev_var rfl) (atI_int hy.1 (at_ y hy.1 hy.2))) fun z hz => by
    obtain ⟨x, y, rfl, hy, rfl⟩ := hz
    exact List.mem_of_getElem? (at_ y hy.1 hy.2)
/-- not in an owned list of data -/
theorem ev_ninDO {n : Nat} [d : PyD K α n] {x : α} {ys : List α} {c : Bool} (ha : Ev ta env os x) (hx : env[i]? = some (.val V inferInstance (V.ref l))) (ho : os[m]? = some (l, Own.lst K ys)) (hc : c = true ↔ x ∈ ys) (ox : d.ok x) (oy : ∀ y ∈ ys, d.ok y) (hd : n + 1 ≤ 64 := by decide) : Ev (tOp (rNotInD K) ta (tVar i)) env os (!c) := fun {b g h σ Q} s q =>
  ha s fun v g1 h1 l1 r1 => ev_var hx (s.le l1) fun w g2 h2 l2 r2 => by
    cases r2
    have e : ((ys.map d.d).any fun z => PyData.eqv z (d.d x)) = c := by
      rw [Bool.eq_iff_iff, hc, List.any_map, List.any_eq_true]
      constructor
      · rintro ⟨y, hy, q⟩
        rw [← d.eq.mp q]
        exact hy
      · exact fun h => ⟨x, h, d.eq.mpr rfl⟩
    obtain ⟨vs, e1, p⟩ := own_seq ((s.le l1).le l2) ho
    refine ⟨d.d x, ys.map d.d, d.dp (l2.gg.trans l2.gh) r1, .lst (SqL.of e1) (dp_all l2.gh p), shaped_of ox (by omega), shaped_of (K := K) (x := ys) oy hd, ?_⟩
    rw [e]; exact q _ _ _ (l1.trans l2) rfl
end
/-! ### what waits -/
def key (r : Row) : Sg × Sg := (r.a, r.b)
def a_waiting (K : PySem.W.Frag) : List (Slot K) → Os → (List Row → Os → Prop) → Prop := fun xs os P => ∃ (ls : Addr) (plans : List Sg) (large : Bool) (b : Sg), xs = [sv (V.ref ls), sv plans, sv large, sv b] ∧ os = [(ls, Stream K)] ∧ ((1 ≤ plans.length ∧ plans.length ≤ 1000) ∧ (∀ x ∈ plans, gN x) ∧ (b = ⟨[]⟩ ∨ gN b)) ∧
  ∀ ws, (∀ r ∈ ws, okR r) → ws.Nodup → ws.length ≤ 1000 → P ws os
theorem sc_law_waiting : FnScope ["stream", "plans", "large", "base", "pool", "size", "many", "k", "span", "taken", "waiting", "plan", "task", "ready"] ["stream", "plans", "large", "base"] (defScope (topS 20)) := ⟨rfl, rfl, rfl, by decide +kernel, rfl, by decide +kernel, by decide +kernel⟩
theorem ok_law_waiting (E : FX K mg) (hPr : ThisP P) : Cal P w K mg base "_law_waiting" 3 ["stream", "plans", "large", "base"] (SpW K (a_waiting K)) := by
  refine E.cal 14 18 (st := (topS 20)) rfl rfl (fun _ _ _ _ _ _ us hl => match us, hl with | [_, _, _, _], _ => rfl) fun f fd F => okWD F sc_law_waiting (fun xs os P' h => ?_) (fun cdv Ar outer s0 H0 E0 hr xs os P' h => ?_)
  · obtain ⟨_, _, _, _, rfl, _⟩ := h; rfl
  · obtain ⟨ls, plans, large, b, rfl, rfl, ⟨⟨hp1, hp2⟩, hpl, hbase⟩, hP⟩ := h
    refine ⟨_, (pss_cons (ps_set (i := 4) sc_law_waiting.nd rfl (.inl rfl) (pe_lst pa_nil))
    (pss_cons (ps_set (i := 5) sc_law_waiting.nd rfl (.inl rfl) (pe_op op_add pe_int (pe_c (ok_law_draw E hPr) (hr.mono (by decide)) rfl (pa_cons (pv 0) (pa_cons pe_int pa_nil)))))
    (pss_cons (ps_set (i := 6) sc_law_waiting.nd rfl (.inl rfl) (pe_c (ok_law_draw E hPr) (hr.mono (by decide)) rfl (pa_cons (pv 0) (pa_cons pe_int pa_nil))))
    (pss_cons (ps_if (pt_val (pv 2)) (pss_cons (ps_set (i := 5) sc_law_waiting.nd rfl (.inl rfl) pe_int)
    (pss_one (ps_set (i := 6) sc_law_waiting.nd rfl (.inl rfl) (pe_op op_add pe_int (pe_c (ok_law_draw E hPr) (hr.mono (by decide)) rfl (pa_cons (pv 0) (pa_cons pe_int pa_nil))))))) pss_nil)
    (pss_cons (ps_for PassesOwn.never rfl (pi_range1 rfl (E.free 20) (pa_cons (pv 5) pa_nil)) (pg_name (i := 7) sc_law_waiting.nd rfl (.inl rfl))
      (pss_one (ps_expr (pe_bm PySem.F.plainAttrs_list PySem.F.slot_list_append PySem.F.type_list_append mt_append (pv 4) (pa_cons (pe_c (ok_law_name E hPr) (hr.mono (by decide)) rfl (pa_cons (pv 0) (pa_cons (pv 4) (pa_cons (pv 3) pa_nil)))) pa_nil)))))
    (pss_cons (ps_set (i := 8) sc_law_waiting.nd rfl (.inl rfl) (pe_c (ok_law_draw E hPr) (hr.mono (by decide)) rfl (pa_cons (pv 0) (pa_cons pe_int pa_nil))))
    (pss_cons (ps_set (i := 9) sc_law_waiting.nd rfl (.inl rfl) (pe_lst pa_nil))
    (pss_cons (ps_set (i := 10) sc_law_waiting.nd rfl (.inl rfl) (pe_lst pa_nil))
    (pss_cons (ps_for PassesOwn.never rfl (pi_range1 rfl (E.free 20) (pa_cons (pv 6) pa_nil)) (pg_name (i := 7) sc_law_waiting.nd rfl (.inl rfl))
      (pss_cons (ps_set (i := 11) sc_law_waiting.nd rfl (.inl rfl) (pe_ix (ix_listK K) (pv 1) (pe_c (ok_law_draw E hPr) (hr.mono (by decide)) rfl (pa_cons (pv 0) (pa_cons (pe_callB (len_seqK K) (by rfl) (E.free 23) (by decide +kernel) (pa_cons (pv 1) pa_nil)) pa_nil))) (fun _ _ => rfl)))
    (pss_cons (ps_set (i := 12) sc_law_waiting.nd rfl (.inl rfl) (pe_ix (ix_listK K) (pv 4) (pe_c (ok_law_draw E hPr) (hr.mono (by decide)) rfl (pa_cons (pv 0) (pa_cons (pe_callB (len_seqK K) (by rfl) (E.free 23) (by decide +kernel) (pa_cons (pv 4) pa_nil)) pa_nil))) (fun _ _ => rfl)))
    (pss_cons (ps_set (i := 13) sc_law_waiting.nd rfl (.inl rfl) (pe_c (ok_law_draw E hPr) (hr.mono (by decide)) rfl (pa_cons (pv 0) (pa_cons (pe_ix (ix_listK K) (pe_lst (pa_cons pe_int (pa_cons pe_int (pa_cons pe_int pa_nil)))) (pv 8) (fun _ _ => rfl)) pa_nil))))
    (pss_cons (ps_if (pt_cmpR op_eq (pv 8) pe_int (nomark _)) (pss_one (ps_set (i := 13) sc_law_waiting.nd rfl (.inl rfl) (pe_op op_sub (pv 13) pe_int))) pss_nil)
    (pss_one (ps_if (pt_cmpR (niDK (K := K) (u65 hr)) (pe_tup (pa_cons (pv 11) (pa_cons (pv 12) pa_nil))) (pv 9) (by rfl)) (pss_cons (ps_expr (pe_bm PySem.F.plainAttrs_list PySem.F.slot_list_append PySem.F.type_list_append mt_append (pv 9) (pa_cons (pe_tup (pa_cons (pv 11) (pa_cons (pv 12) pa_nil))) pa_nil)))
    (pss_one (ps_expr (pe_bm PySem.F.plainAttrs_list PySem.F.slot_list_append PySem.F.type_list_append mt_append (pv 10) (pa_cons (pe_tup (pa_cons (pv 11) (pa_cons (pv 12) (pa_cons (pv 13) pa_nil)))) pa_nil))))) pss_nil)))))))
    (pss_one (ps_ret (pv 10)))))))))))) , fun g σ Q s fin => ?_⟩
    refine st_setN s (en_lst (xs := ([] : List Sg)) el_nil (by decide)) (fun lp g h s => ?_)
    try dsimp only
    refine st_setW s (EvW.imp (ew_op (f := fun x y : Int => x + y) (Ev.w ev_int) (ew_takeC (m := 0) rfl rfl ev_int ⟨by decide, by decide⟩) fun x y _ _ => ev_i2 (ev_var rfl) (ev_var rfl)) (P' := fun z : Int => 1 ≤ z ∧ z ≤ 20) fun z hz => by
      obtain ⟨x, y, rfl, hy, rfl⟩ := hz
      omega) (fun size hsz v g h s => ?_)
    try dsimp only
    refine st_setW s (EvW.imp (ew_takeC (m := 0) rfl rfl ev_int ⟨by decide, by decide⟩) (P' := fun z : Int => 0 ≤ z ∧ z ≤ 40) fun z hz => by omega) (fun many hmn v g h s => ?_)
    try dsimp only
    refine st_if_cut (fun e o => ∃ (size many : Int) (s7 s8 s9 s10 s11 s12 s13 : Slot K), e = [sv (V.ref ls), sv plans, sv large, sv b, sv (V.ref lp), sv size, sv many, s7, s8, s9, s10, s11, s12, s13] ∧ o = [(ls, Stream K), (lp, Own.lst K ([] : List Sg))] ∧ (1 ≤ size ∧ size ≤ 20) ∧ 0 ≤ many ∧ many ≤ 40) s (et_B (ev_var (x := large) rfl)) (fun e o g h σ hJ s => ?_) (fun hc g h N s hN => ?_) (fun hc g h N s hN => ?_)
    rotate_left
    · refine st_set s ev_int (fun v g h s => ?_)
      try dsimp only
      refine st_setW s (EvW.imp (ew_op (f := fun x y : Int => x + y) (Ev.w ev_int) (ew_takeC (m := 0) rfl rfl ev_int ⟨by decide, by decide⟩) fun x y _ _ => ev_i2 (ev_var rfl) (ev_var rfl)) (P' := fun z : Int => 0 ≤ z ∧ z ≤ 40) fun z hz => by
        obtain ⟨x, y, rfl, hy, rfl⟩ := hz
        omega) (fun many hmn v g h s => ?_)
      exact hN _ _ _ _ _ ⟨20, many, _, _, _, _, _, _, _, rfl, rfl, by decide, hmn⟩ s
    · exact hN _ _ _ _ _ ⟨size, many, _, _, _, _, _, _, _, rfl, rfl, hsz, hmn⟩ s
    clear hmn hsz
    obtain ⟨size, many, s7, s8, s9, s10, s11, s12, s13, rfl, rfl, hsz, hmn⟩ := hJ
    try dsimp only
    refine st_for_range s (ev_var (x := size) rfl) (by omega) (by omega) (fun k e o => ∃ (pool : List Sg) (s7 : Slot K), e = [sv (V.ref ls), sv plans, sv large, sv b, sv (V.ref lp), sv size, sv many, s7, s8, s9, s10, s11, s12, s13] ∧ o = [(ls, Stream K), (lp, Own.lst K pool)] ∧ pool.length = k ∧ ∀ x ∈ pool, gN x) ⟨[], _, rfl, rfl, rfl, fun _ h => by simp at h⟩ (fun k hk c hls e o g h σ N hI back s hN => ?_) (fun e o g h σ hI s => ?_)
    · obtain ⟨pool, s7, rfl, rfl, hpn, hpg⟩ := hI
      try dsimp only
      refine st_appendW (m := 1) s rfl rfl (by rw [hpn, sizeLine_eq]; omega) (ew_callWS (P := gN) [(ls, Stream K), (lp, Own.lst K pool)] (EvA.w (ea_cons (ev_var (x := V.ref ls) rfl) (ea_cons (ev_var (x := V.ref lp) rfl) (ea_cons (ev_var (x := b) rfl) ea_nil)))) (List.Sublist.refl _) fun xs hxs => by
        subst hxs
        exact ⟨ls, lp, pool, b, rfl, rfl, hbase, fun z hz => ⟨hz, rfl⟩⟩) (fun x hx g h s => ?_)
      refine hN _ _ _ _ _ ⟨pool ++ [x], _, rfl, rfl, by rw [List.length_append, hpn]; rfl, fun y hy => ?_⟩ s
      rcases List.mem_append.mp hy with q | q
      · exact hpg y q
      · rw [List.mem_singleton.mp q]; exact hx
    obtain ⟨pool, s7, rfl, rfl, hpn, hpg⟩ := hI
    try dsimp only
    obtain ⟨g, s⟩ := s.freezeW (i := 4) (m := 1) rfl rfl 1 rfl (by decide)
    try dsimp only at s
    have hpl1 : 1 ≤ pool.length ∧ pool.length ≤ 1000 := by omega
    refine st_setW s (ew_takeC (m := 0) rfl rfl ev_int ⟨by decide, by decide⟩) (fun span hspan v g h s => ?_)
    try dsimp only
    refine st_setN s (en_lst (xs := ([] : List (Sg × Sg))) el_nil (by decide)) (fun lt g h s => ?_)
    try dsimp only
    refine st_setN s (en_lst (xs := ([] : List Row)) el_nil (by decide)) (fun lw g h s => ?_)
    try dsimp only
    refine st_for_range s (ev_var (x := many) rfl) (by omega) (by omega) (fun k e o => ∃ (ws : List Row) (s7 s11 s12 s13 : Slot K), e = [sv (V.ref ls), sv plans, sv large, sv b, sv pool, sv size, sv many, s7, sv span, sv (V.ref lt), sv (V.ref lw), s11, s12, s13] ∧ o = [(ls, Stream K), (lt, Own.lst K (ws.map key)), (lw, Own.lst K ws)] ∧ ws.length ≤ k ∧ (∀ r ∈ ws, okR r) ∧ ws.Nodup) ⟨[], _, _, _, _, rfl, rfl, Nat.le_refl _, fun _ h => by simp at h, List.nodup_nil⟩ (fun k hk c hls e o g h σ N hI back s hN => ?_) (fun e o g h σ hI s => ?_)
    · obtain ⟨ws, s7, s11, s12, s13, rfl, rfl, hwl, hwo, hwn⟩ := hI
      try dsimp only
      refine st_setW s (ew_pick (n := (plans.length : Int)) ⟨[]⟩ (ev_var (x := plans) rfl) rfl (ew_takeC (m := 0) rfl rfl (ev_lenL (ev_var (x := plans) rfl)) ⟨by omega, by omega⟩)) (fun plan hplan v g h s => ?_)
      try dsimp only
      refine st_setW s (ew_pick (n := (pool.length : Int)) ⟨[]⟩ (ev_var (x := pool) rfl) rfl (ew_takeC (m := 0) rfl rfl (ev_lenL (ev_var (x := pool) rfl)) ⟨by omega, by omega⟩)) (fun task htask v g h s => ?_)
      try dsimp only
      have hsp : ∃ sz : Int, atI [(4 : Int), 2, 200001] span = some sz ∧ 0 < sz ∧ sz ≤ 1000000 := by
        rcases (by omega : span = 0 ∨ span = 1 ∨ span = 2) with rfl | rfl | rfl
        · exact ⟨4, rfl, by decide, by decide⟩
        · exact ⟨2, rfl, by decide, by decide⟩
        · exact ⟨200001, rfl, by decide, by decide⟩
      obtain ⟨sz, hsz1, hsz2, hsz3⟩ := hsp
      refine st_setW s (ew_takeC (m := 0) (n := sz) rfl rfl (ev_ixL (xs := [(4 : Int), 2, 200001]) (ev_lstL (el_cons ev_int (el_cons ev_int (el_cons ev_int el_nil)))) (ev_var (x := span) rfl) hsz1) ⟨hsz2, hsz3⟩) (fun ready hready v g h s => ?_)
      try dsimp only
      refine st_if_cut (fun e o => ∃ ready : Int, e = [sv (V.ref ls), sv plans, sv large, sv b, sv pool, sv size, sv many, sv (k : Int), sv span, sv (V.ref lt), sv (V.ref lw), sv plan, sv task, sv ready] ∧ o = [(ls, Stream K), (lt, Own.lst K (ws.map key)), (lw, Own.lst K ws)]) s (et_test (ev_eqI (ev_var (x := span) rfl) ev_int)) (fun e o g h σ hJ s => ?_) (fun hc g h N s hN => ?_) (fun hc g h N s hN => ?_)
      rotate_left
      · exact st_set s (ev_i2 (ev_var (x := ready) rfl) ev_int) fun v g h s => hN _ _ _ _ _ ⟨_, rfl, rfl⟩ s
      · exact hN _ _ _ _ _ ⟨ready, rfl, rfl⟩ s
      clear hready
      obtain ⟨ready, rfl, rfl⟩ := hJ
      try dsimp only
      have hb : ∃ c : Bool, c = true ↔ (plan, task) ∈ ws.map key := by
        by_cases e : (plan, task) ∈ ws.map key
        · exact ⟨true, by simp [e]⟩
        · exact ⟨false, by simp [e]⟩
      obtain ⟨c0, hc0⟩ := hb
      have hpo := gN_ok (hpl plan hplan)
      have hto := gN_ok (hpg task htask)
      have hxo : (inferInstance : PyD K (Sg × Sg) 1).ok (plan, task) := ⟨hpo, hto⟩
      refine st_if s (et_test (ev_ninDO (n := 1) (m := 1) (x := (plan, task)) (ev_pair (ev_var (x := plan) rfl) (ev_var (x := task) rfl)) rfl rfl hc0 hxo (fun y hy => by
        obtain ⟨r, hr, rfl⟩ := List.mem_map.mp hy
        exact hwo r hr))) (fun hc g h s => ?_) (fun hc g h s => ?_)
      · have hn : (plan, task) ∉ ws.map key := fun e => by
          rw [hc0.mpr e] at hc; cases hc
        refine st_append (m := 1) s rfl rfl (by rw [List.length_map, sizeLine_eq]; omega) (ev_pair (ev_var (x := plan) rfl) (ev_var (x := task) rfl)) (fun g h s => ?_)
        try dsimp only
        refine st_append (m := 2) s rfl rfl (by rw [sizeLine_eq]; omega) (ev_tri (ev_var (x := plan) rfl) (ev_var (x := task) rfl) (ev_var (x := ready) rfl)) (fun g h s => ?_)
        refine hN _ _ _ _ _ ⟨ws ++ [⟨plan, task, ready⟩], _, _, _, _, rfl, ?_, by rw [List.length_append]; exact Nat.succ_le_succ hwl, fun r hr => ?_, ?_⟩ s
        · rw [List.map_append]; rfl
        · rcases List.mem_append.mp hr with q | q
          · exact hwo r q
          · rw [List.mem_singleton.mp q]; exact ⟨hpo, hto⟩
        · refine List.nodup_append.mpr ⟨hwn, by simp, fun x hx y hy e => ?_⟩
          rw [List.mem_singleton] at hy
          subst e hy
          exact hn (List.mem_map.mpr ⟨_, hx, rfl⟩)
      · exact hN _ _ _ _ _ ⟨ws, _, _, _, _, rfl, rfl, by omega, hwo, hwn⟩ s
    · obtain ⟨ws, s7, s11, s12, s13, rfl, rfl, hwl, hwo, hwn⟩ := hI
      try dsimp only
      obtain ⟨g, s⟩ := s.freezeW (i := 10) (m := 2) rfl rfl 1 rfl (by decide)
      try dsimp only at s
      refine st_ret s (ev_var (x := ws) rfl) fun v g h s r => fin v ws g h _ _ _ _ (hP ws hwo hwn (by omega)) (fun p hp => ?_) s (by simp) r
      rw [List.mem_singleton.mp hp]; exact List.mem_cons_self
end K22
namespace K22
open PySem PySem.Spec PyProof.Rows L2 Lw ClX LamX NdefX
variable {P : Program} {w : World} {K : PySem.W.Frag} {mg : Str → Option Value} {base : Heap}
def a_law (K : PySem.W.Frag) : List (Slot K) → Os → (Bool → Os → Prop) → Prop := fun xs os P => ∃ script : List Int, xs = [sv script] ∧ os = OT K ∧ script.length ≤ 1000 ∧ P true os
theorem sc_law : FnScope ["script", "stream", "large", "base", "plans", "k", "known", "told", "plan", "last", "waiting", "kind"] ["script"] (defScope (topS 21)) := ⟨rfl, rfl, rfl, by decide +kernel, rfl, by decide +kernel, by decide +kernel⟩
theorem ok_law (E : FX K mg) (hPr : ThisP P) (hT : TB2 base mg K) {f : Addr} {fd : FuncData} (F : FunD K "law" "law" (defArgs (topS 21)) (defBody (topS 21)) (defScope (topS 21)) [] [] f fd) : FnOk P w K mg base CX0 9 f fd ["script"] (SpW K (a_law K)) := by
  refine okWD F sc_law (fun xs os P' h => ?_) (fun cdv Ar outer s0 H0 E0 hr xs os P' h => ?_)
  · obtain ⟨_, rfl, _⟩ := h; rfl
  · obtain ⟨script, rfl, rfl, hz, hP⟩ := h
    refine ⟨_, (pss_cons (ps_set (i := 1) sc_law.nd rfl (.inl rfl) (pe_c (ok_law_stream E hPr) (hr.mono (by decide)) rfl (pa_cons (pv 0) pa_nil)))
    (pss_cons (ps_set (i := 2) sc_law.nd rfl (.inl rfl) (pe_cmpR op_eq (pe_c (ok_law_draw E hPr) (hr.mono (by decide)) rfl (pa_cons (pv 1) (pa_cons pe_int pa_nil))) pe_int (nomark _)))
    (pss_cons (ps_set (i := 3) sc_law.nd rfl (.inl rfl) (pe_c (ok_law_name0 E hPr) (hr.mono (by decide)) rfl (pa_cons (pv 1) (pa_cons (pe_lst pa_nil) (pa_cons pe_str pa_nil)))))
    (pss_cons (ps_set (i := 4) sc_law.nd rfl (.inl rfl) (pe_lst pa_nil))
    (pss_cons (ps_for PassesOwn.never rfl (pi_range1 rfl (E.free 20) (pa_cons (pe_op op_add pe_int (pe_c (ok_law_draw E hPr) (hr.mono (by decide)) rfl (pa_cons (pv 1) (pa_cons pe_int pa_nil)))) pa_nil)) (pg_name (i := 5) sc_law.nd rfl (.inl rfl))
      (pss_one (ps_expr (pe_bm PySem.F.plainAttrs_list PySem.F.slot_list_append PySem.F.type_list_append mt_append (pv 4) (pa_cons (pe_c (ok_law_name E hPr) (hr.mono (by decide)) rfl (pa_cons (pv 1) (pa_cons (pv 4) (pa_cons (pv 3) pa_nil)))) pa_nil)))))
    (pss_cons (ps_set (i := 6) sc_law.nd rfl (.inl rfl) (pe_callTy (list_ofK K) (by rfl) (E.free 21) (by decide +kernel) (pa_cons (pv 4) pa_nil)))
    (pss_cons (ps_for PassesOwn.never rfl (pi_range1 rfl (E.free 20) (pa_cons pe_int pa_nil)) (pg_name (i := 5) sc_law.nd rfl (.inl rfl))
      (pss_one (ps_expr (pe_bm PySem.F.plainAttrs_list PySem.F.slot_list_append PySem.F.type_list_append mt_append (pv 6) (pa_cons (pe_c (ok_law_name E hPr) (hr.mono (by decide)) rfl (pa_cons (pv 1) (pa_cons (pv 6) (pa_cons (pv 3) pa_nil)))) pa_nil)))))
    (pss_cons (ps_set (i := 7) sc_law.nd rfl (.inl rfl) (pe_lst pa_nil))
    (pss_cons (ps_for PassesOwn.never rfl (pi_range1 rfl (E.free 20) (pa_cons (pe_c (ok_law_draw E hPr) (hr.mono (by decide)) rfl (pa_cons (pv 1) (pa_cons pe_int pa_nil))) pa_nil)) (pg_name (i := 5) sc_law.nd rfl (.inl rfl))
      (pss_cons (ps_set (i := 8) sc_law.nd rfl (.inl rfl) (pe_ix (ix_listK K) (pv 6) (pe_c (ok_law_draw E hPr) (hr.mono (by decide)) rfl (pa_cons (pv 1) (pa_cons (pe_callB (len_seqK K) (by rfl) (E.free 23) (by decide +kernel) (pa_cons (pv 6) pa_nil)) pa_nil))) (fun _ _ => rfl)))
    (pss_one (ps_if (pt_cmpR (ni_seqK K) (pv 8) (pv 7) (by rfl)) (pss_one (ps_expr (pe_bm PySem.F.plainAttrs_list PySem.F.slot_list_append PySem.F.type_list_append mt_append (pv 7) (pa_cons (pv 8) pa_nil)))) pss_nil))))
    (pss_cons (ps_set (i := 9) sc_law.nd rfl (.inl rfl) (pe_ix (ix_listK K) (pv 6) (pe_c (ok_law_draw E hPr) (hr.mono (by decide)) rfl (pa_cons (pv 1) (pa_cons (pe_callB (len_seqK K) (by rfl) (E.free 23) (by decide +kernel) (pa_cons (pv 6) pa_nil)) pa_nil))) (fun _ _ => rfl)))
    (pss_cons (ps_if (pt_cmpR op_eq (pe_c (ok_law_draw E hPr) (hr.mono (by decide)) rfl (pa_cons (pv 1) (pa_cons pe_int pa_nil))) pe_int (nomark _)) (pss_one (ps_set (i := 9) sc_law.nd rfl (.inl rfl) pe_str)) pss_nil)
    (pss_cons (ps_set (i := 10) sc_law.nd rfl (.inl rfl) (pe_c (ok_law_waiting E hPr) (hr.mono (by decide)) rfl (pa_cons (pv 1) (pa_cons (pv 4) (pa_cons (pv 2) (pa_cons (pv 3) pa_nil))))))
    (pss_cons (ps_for PassesOwn.never rfl (pi_range1 rfl (E.free 20) (pa_cons pe_int pa_nil)) (pg_name (i := 11) sc_law.nd rfl (.inl rfl))
      (pss_one (ps_if (pt_not (pt_val (pe_c (ok_law_holds E hPr hT) (hr.mono (by decide)) rfl (pa_cons (pv 11) (pa_cons (pv 7) (pa_cons (pv 10) (pa_cons (pv 9) pa_nil))))))) (pss_one (ps_ret pe_bl)) pss_nil)))
    (pss_one (ps_ret pe_bl))))))))))))))) , fun g σ Q s fin => ?_⟩
    refine st_setCW (P := fun (v : V) osz => ∃ l, v = .ref l ∧ osz = [(l, Stream K)]) [] (OT K) s (List.Perm.refl _) (ea_cons (ev_var (x := script) rfl) ea_nil) ⟨script, rfl, rfl, hz, fun l => ⟨l, rfl, rfl⟩⟩ (fun z osz hzo v g h s => ?_)
    obtain ⟨ls, rfl, rfl⟩ := hzo
    have s := s.perm (List.perm_append_comm (l₁ := [(ls, Stream K)]) (l₂ := OT K))
    have s : S0 _ _ _ _ _ [oRank K, oRoun K, (ls, Stream K)] := s
    try dsimp only at s
    refine st_setW s (EvW.imp (ew_op (f := fun x y : Int => decide (x = y)) (ew_takeC (m := 2) rfl rfl ev_int ⟨by decide, by decide⟩) (Ev.w ev_int) fun x y _ _ => ev_eqI (ev_var rfl) (ev_var rfl)) (P' := fun _ : Bool => True) fun _ _ => trivial) (fun large _ v g h s => ?_)
    try dsimp only
    refine st_setW s (ew_callWS (P := gN) [(ls, Stream K)] (EvA.w (ea_cons (ev_var (x := V.ref ls) rfl) (ea_cons (ev_lstL (xs := ([] : List Sg)) el_nil) (ea_cons (ev_lit (l := [])) ea_nil)))) (.cons _ (.cons _ (.refl _))) fun xs hxs => by
      subst hxs
      exact ⟨ls, [], ⟨[]⟩, rfl, rfl, .inl rfl, fun z hz => ⟨hz, rfl⟩⟩) (fun bs hbs v g h s => ?_)
    try dsimp only
    refine st_setN s (en_lst (xs := ([] : List Sg)) el_nil (by decide)) (fun lp g h s => ?_)
    try dsimp only
    refine st_forRW (PN := fun n => 1 ≤ n ∧ n ≤ 6) s (EvW.imp (ew_op (f := fun x y : Int => x + y) (Ev.w ev_int) (ew_takeC (m := 2) rfl rfl ev_int ⟨by decide, by decide⟩) fun x y _ _ => ev_i2 (ev_var rfl) (ev_var rfl)) fun z hz => by
      obtain ⟨x, y, rfl, hy, rfl⟩ := hz
      omega) (fun n hn g h s => ?_)
    refine st_for_range s ev_int (by omega) (by omega) (fun k e o => ∃ (plans : List Sg) (s5 : Slot K), e = [sv script, sv (V.ref ls), sv large, sv bs, sv (V.ref lp), s5, .unk, .unk, .unk, .unk, .unk, .unk] ∧ o = [oRank K, oRoun K, (ls, Stream K), (lp, Own.lst K plans)] ∧ plans.length = k ∧ ∀ x ∈ plans, gN x) ⟨[], _, rfl, rfl, rfl, fun _ h => by simp at h⟩ (fun k hk c hls e o g h σ N hI back s hN => ?_) (fun e o g h σ hI s => ?_)
    · obtain ⟨plans, s5, rfl, rfl, hpn, hpg⟩ := hI
      try dsimp only
      refine st_appendW (m := 3) s rfl rfl (by rw [hpn, sizeLine_eq]; omega) (ew_callWS (P := gN) [(ls, Stream K), (lp, Own.lst K plans)] (EvA.w (ea_cons (ev_var (x := V.ref ls) rfl) (ea_cons (ev_var (x := V.ref lp) rfl) (ea_cons (ev_var (x := bs) rfl) ea_nil)))) (.cons _ (.cons _ (.refl _))) fun xs hxs => by
        subst hxs
        exact ⟨ls, lp, plans, bs, rfl, rfl, .inr hbs, fun z hz => ⟨hz, rfl⟩⟩) (fun x hx g h s => ?_)
      refine hN _ _ _ _ _ ⟨plans ++ [x], _, rfl, rfl, by rw [List.length_append, hpn]; rfl, fun y hy => ?_⟩ s
      rcases List.mem_append.mp hy with q | q
      · exact hpg y q
      · rw [List.mem_singleton.mp q]; exact hx
    obtain ⟨plans, s5, rfl, rfl, hpn, hpg⟩ := hI
    try dsimp only
    obtain ⟨g, s⟩ := s.freezeW (i := 4) (m := 3) rfl rfl 2 rfl (by decide)
    try dsimp only at s
    have hpl1 : 1 ≤ plans.length ∧ plans.length ≤ 6 := by omega
    refine st_setN s (en_listL (ev_var (x := plans) rfl)) (fun lk g h s => ?_)
    try dsimp only
    refine st_for_range s ev_int (by decide) (by decide) (fun k e o => ∃ (known : List Sg) (s5 : Slot K), e = [sv script, sv (V.ref ls), sv large, sv bs, sv plans, s5, sv (V.ref lk), .unk, .unk, .unk, .unk, .unk] ∧ o = [oRank K, oRoun K, (ls, Stream K), (lk, Own.lst K known)] ∧ known.length = plans.length + k ∧ ∀ x ∈ known, gN x) ⟨plans, _, rfl, rfl, rfl, hpg⟩ (fun k hk c hls e o g h σ N hI back s hN => ?_) (fun e o g h σ hI s => ?_)
    · obtain ⟨known, s5, rfl, rfl, hkn, hkg⟩ := hI
      try dsimp only
      have hk3 : k < 3 := hk
      refine st_appendW (m := 3) s rfl rfl (by rw [hkn, sizeLine_eq]; omega) (ew_callWS (P := gN) [(ls, Stream K), (lk, Own.lst K known)] (EvA.w (ea_cons (ev_var (x := V.ref ls) rfl) (ea_cons (ev_var (x := V.ref lk) rfl) (ea_cons (ev_var (x := bs) rfl) ea_nil)))) (.cons _ (.cons _ (.refl _))) fun xs hxs => by
        subst hxs
        exact ⟨ls, lk, known, bs, rfl, rfl, .inr hbs, fun z hz => ⟨hz, rfl⟩⟩) (fun x hx g h s => ?_)
      refine hN _ _ _ _ _ ⟨known ++ [x], _, rfl, rfl, by rw [List.length_append, hkn]; rfl, fun y hy => ?_⟩ s
      rcases List.mem_append.mp hy with q | q
      · exact hkg y q
      · rw [List.mem_singleton.mp q]; exact hx
    obtain ⟨known, s5, rfl, rfl, hkn, hkg⟩ := hI
    try dsimp only
    have hkn : known.length = plans.length + 3 := hkn
    obtain ⟨g, s⟩ := s.freezeW (i := 6) (m := 3) rfl rfl 2 rfl (by decide)
    try dsimp only at s
    refine st_setN s (en_lst (xs := ([] : List Sg)) el_nil (by decide)) (fun lt g h s => ?_)
    try dsimp only
    refine st_forRW (PN := fun n => 0 ≤ n ∧ n < 7) s (ew_takeC (m := 2) rfl rfl ev_int ⟨by decide, by decide⟩) (fun n2 hn2 g h s => ?_)
    refine st_for_range s ev_int (by omega) (by omega) (fun k e o => ∃ (told : List Sg) (s5 s8 : Slot K), e = [sv script, sv (V.ref ls), sv large, sv bs, sv plans, s5, sv known, sv (V.ref lt), s8, .unk, .unk, .unk] ∧ o = [oRank K, oRoun K, (ls, Stream K), (lt, Own.lst K told)] ∧ told.length ≤ k ∧ ∀ x ∈ told, gN x) ⟨[], _, _, rfl, rfl, Nat.le_refl _, fun _ h => by simp at h⟩ (fun k hk c hls e o g h σ N hI back s hN => ?_) (fun e o g h σ hI s => ?_)
    · obtain ⟨told, s5, s8, rfl, rfl, htn, htg⟩ := hI
      try dsimp only
      refine st_setW s (ew_pick (n := (known.length : Int)) ⟨[]⟩ (ev_var (x := known) rfl) rfl (ew_takeC (m := 2) rfl rfl (ev_lenL (ev_var (x := known) rfl)) ⟨by omega, by omega⟩)) (fun plan hplan v g h s => ?_)
      try dsimp only
      refine st_if s (et_test (ev_niSgO (i := 7) (m := 3) (ev_var (x := plan) rfl) rfl rfl)) (fun hc g h s => ?_) (fun hc g h s => ?_)
      · refine st_append (m := 3) s rfl rfl (by rw [sizeLine_eq]; omega) (ev_var (x := plan) rfl) (fun g h s => ?_)
        refine hN _ _ _ _ _ ⟨told ++ [plan], _, _, rfl, rfl, by rw [List.length_append]; exact Nat.succ_le_succ htn, fun y hy => ?_⟩ s
        rcases List.mem_append.mp hy with q | q
        · exact htg y q
        · rw [List.mem_singleton.mp q]; exact hkg plan hplan
      · exact hN _ _ _ _ _ ⟨told, _, _, rfl, rfl, by omega, htg⟩ s
    obtain ⟨told, s5, s8, rfl, rfl, htn, htg⟩ := hI
    try dsimp only
    have ht6 : told.length ≤ 6 := by omega
    obtain ⟨g, s⟩ := s.freezeW (i := 7) (m := 3) rfl rfl 2 rfl (by decide)
    try dsimp only at s
    refine st_setW s (ew_pick (n := (known.length : Int)) ⟨[]⟩ (ev_var (x := known) rfl) rfl (ew_takeC (m := 2) rfl rfl (ev_lenL (ev_var (x := known) rfl)) ⟨by omega, by omega⟩)) (fun last0 _ v g h s => ?_)
    try dsimp only
    refine st_if_cutW (P := fun _ => True) (fun e o => ∃ last : Sg, e = [sv script, sv (V.ref ls), sv large, sv bs, sv plans, s5, sv known, sv told, s8, sv last, .unk, .unk] ∧ o = [oRank K, oRoun K, (ls, Stream K)]) s (ewt_test (EvW.imp (ew_op (f := fun x y : Int => decide (x = y)) (ew_takeC (m := 2) rfl rfl ev_int ⟨by decide, by decide⟩) (Ev.w ev_int) fun x y _ _ => ev_eqI (ev_var rfl) (ev_var rfl)) (P' := fun _ : Bool => True) fun _ _ => trivial)) (fun e o g h σ hJ s => ?_) (fun hc g h N s hN => ?_) (fun hc g h N s hN => ?_)
    rotate_left
    · exact st_set s (ev_lit (l := [])) fun v g h s => hN _ _ _ _ _ ⟨_, rfl, rfl⟩ s
    · exact hN _ _ _ _ _ ⟨last0, rfl, rfl⟩ s
    obtain ⟨last, rfl, rfl⟩ := hJ
    try dsimp only
    refine st_setW s (ew_callWS (P := fun ws : List Row => (∀ r ∈ ws, okR r) ∧ ws.Nodup ∧ ws.length ≤ 1000) [(ls, Stream K)] (EvA.w (ea_cons (ev_var (x := V.ref ls) rfl) (ea_cons (ev_var (x := plans) rfl) (ea_cons (ev_var (x := large) rfl) (ea_cons (ev_var (x := bs) rfl) ea_nil))))) (.cons _ (.cons _ (.refl _))) fun xs hxs => by
      subst hxs
      exact ⟨ls, plans, large, bs, rfl, rfl, ⟨⟨hpl1.1, by omega⟩, hpg, .inr hbs⟩, fun ws h1 h2 h3 => ⟨⟨h1, h2, h3⟩, rfl⟩⟩) (fun ws hws v g h s => ?_)
    obtain ⟨hw1, hw2, hw3⟩ := hws
    try dsimp only
    refine st_for_range s ev_int (by decide) (by decide) (fun k e o => ∃ s11 : Slot K, e = [sv script, sv (V.ref ls), sv large, sv bs, sv plans, s5, sv known, sv told, s8, sv last, sv ws, s11] ∧ o = [oRank K, oRoun K, (ls, Stream K)]) ⟨_, rfl, rfl⟩ (fun k hk c hls e o g h σ N hI back s hN => ?_) (fun e o g h σ hI s => ?_)
    · obtain ⟨s11, rfl, rfl⟩ := hI
      try dsimp only
      have hk4 : k < 4 := hk
      refine st_ifW s (ewt_notT (ewt_B (ew_callWS (P := fun c => c = true) (OT K) (EvA.w (ea_cons (ev_var (x := (k : Int)) rfl) (ea_cons (ev_var (x := told) rfl) (ea_cons (ev_var (x := ws) rfl) (ea_cons (ev_var (x := last) rfl) ea_nil))))) (List.sublist_append_left (OT K) _) fun xs hxs => by
        subst hxs
        exact ⟨(k : Int), told, ws, last, rfl, rfl, ⟨⟨⟨by omega, by omega⟩, hw1, hw2, hw3⟩, ht6, fun x hx => gN_ok (htg x hx)⟩, rfl, rfl⟩))) (fun hc g h s => nomatch hc) (fun hc g h s => ?_)
      exact hN _ _ _ _ _ ⟨_, rfl, rfl⟩ s
    · obtain ⟨s11, rfl, rfl⟩ := hI
      try dsimp only
      exact st_ret s ev_bl fun v g h s r => fin v true g h _ _ _ _ hP (fun p hp => List.mem_append_left [(ls, Stream K)] hp) s (by have h1 := s.nd; exact (h1.sublist (List.sublist_append_left ((OT K).map (·.1)) _))) r
end K22
namespace K22
open PySem PySem.Spec PyProof.Rows L2 Lw
theorem facts {P : Program} {w : World} {K : PySem.W.Frag} {h : Heap} {mg : Str → Option Value} {f : Addr} (hPr : P = PySem.Challenge.pw_planyard_k22_rule_orders) (X : K.In h) (G : h.Ns mainGlobals mg) (hfa : mg ("law" : Str) = some (.ref f)) (c : SaysY fa fn ex xs K) :
    ∃ fd : FuncData, (∀ (s : Shared) (v : Value), BindsTo s fd ⟨[v], []⟩ [("script", v)]) ∧ ∀ base : Heap, K.In base → base.Ns mainGlobals mg → TB2 base mg K → FnOk P w K mg base CX0 9 f fd ["script"] (SpW K (a_law K)) := by
  have E : FX K mg := Fy.of X G c
  obtain ⟨fd, F⟩ := E.f.d.def_ 15 (d := dd "law" 21) rfl
  have e := hfa.symm.trans (E.gref 19 (x := "law") rfl)
  cases e
  have b := FunD.bindsA (ps := ["script"]) F fun _ _ _ _ _ _ us hl => match us, hl with | [_], _ => rfl
  exact ⟨fd, fun s v => b s [v] rfl, fun base _ _ hT => ok_law E hPr hT F⟩
def kept (K : PySem.W.Frag) (H : Hp) : Hp := fun b => if b = tRank K ∨ b = tRoun K then none else H b
theorem law_sp {K : PySem.W.Frag} {H : Hp} {a : Addr} {ns : List Int} (hne : tRank K ≠ tRoun K) (h1 : H (tRank K) = some (.tbl #[])) (h2 : H (tRoun K) = some (.tbl #[])) (hl : ns.length ≤ 1000) (h : SqL K H a (ns.map V.int)) {E : XK} : SpW K (a_law K) [.ref a] H (fun v _ => v = .bl true) E := by
  have gh : Same (kept K H) H := fun b o e => by
    unfold kept at e
    split at e
    · cases e
    · exact e
  have ng : kept K H (tRank K) = none ∧ kept K H (tRoun K) = none := ⟨if_pos (.inl rfl), if_pos (.inr rfl)⟩
  have T0 : ∀ q, TabT (kept K H) q #[] := fun q => ⟨True.intro, fun pos cv hc => by
    have z : codeAmong pos [] = some cv := hc
    simp [codeAmong] at z⟩
  have sq : SqL K (kept K H) a (ns.map V.int) := by
    have na : ∀ o, H a = some o → (∀ ps, o ≠ .tbl ps) → kept K H a = some o := fun o e n => by
      unfold kept
      rw [if_neg]
      · exact e
      · rintro (z | z)
        · rw [z, h1] at e; exact n _ (Option.some.inj e).symm
        · rw [z, h2] at e; exact n _ (Option.some.inj e).symm
    rcases h with (q | ⟨o, q⟩) | q
    · exact .inl (.inl (na _ q (fun ps z => by cases z)))
    · exact .inl (.inr ⟨o, na _ q (fun ps z => by cases z)⟩)
    · exact .inr q
  refine ⟨kept K H, [sv ns], OT K, fun c _ => c = true, ⟨ns, rfl, rfl, hl, rfl⟩, gh, ⟨fun p hp => ?_, ?_⟩, .cons ⟨_, rfl, a, _, rfl, sq, paired_of_eq⟩ .nil, fun v z os' g' H' hz _ _ _ r => ?_⟩
  · rcases List.mem_cons.mp hp with rfl | hp
    · exact ⟨ng.1, _, h1, #[], rfl, T0 _⟩
    · rw [List.mem_singleton.mp hp]
      exact ⟨ng.2, _, h2, #[], rfl, T0 _⟩
  · show [tRank K, tRoun K].Nodup
    simp [hne]
  · have hz : z = true := hz
    rw [hz] at r
    exact r
theorem tabs_ne {K : PySem.W.Frag} (c : SaysY fa fn ex xs K) : tRank K ≠ tRoun K := of_decide_eq_true (all_at (l := cks K) (i := 5) c.more rfl)
end K22
open PySem PySem.W PySem.Calls PyProof.Rows
theorem PySem.Challenge.cw_planyard_k22_rule_orders_holds : PySem.Challenge.rw_planyard_k22_rule_orders.Holds := by
  w_on; o_law
  refine HandSHeadRun.head_imp (r := OpenLaw.row PySem.Challenge.rw_planyard_k22_rule_orders) (q := view (OpenLaw.row PySem.Challenge.rw_planyard_k22_rule_orders).prog [21]) (H := K22.hk) (ob := K22.ob) (M := 20000) (loose := K22.names) (d := HandSHeadRun.topDef (OpenLaw.row PySem.Challenge.rw_planyard_k22_rule_orders).prog 21) (kwd := []) K22.ob_eq
    K22.run (by kernel_rfl) (by kernel_rfl) (by kernel_rfl) (by rfl) (by first | assumption | decide +kernel) (by decide +kernel) ⟨rfl, rfl, rfl, rfl, rfl, by decide +kernel⟩ ?hw ?hc
  case hw => w_witness2
  case hc =>
    refine LamX.walk_ofTsE (l := PySem.Challenge.rw_planyard_k22_rule_orders) (n := 63) (k := 9) (x := "script") (CX := fun _ => L2.CX0) rfl (by decide) (by kernel_rfl) ⟨rfl, by decide, by decide⟩ ?F (fun _ _ _ _ _ z => z)
    intro w mg fa h Y G hmg0
    obtain ⟨K, KX, c, t⟩ := Y
    have hmg : mg ("law" : PySem.Str) = some (.ref fa) := by
      have e : (HandSHeadRun.topDef (OpenLaw.row PySem.Challenge.rw_planyard_k22_rule_orders).prog 21).name = ("law" : PySem.Str) := by kernel_rfl
      rw [← e]
      exact hmg0
    obtain ⟨fd, hb, hF⟩ := K22.facts (P := (PySem.Challenge.rw_planyard_k22_rule_orders).prog) (w := w) rfl KX G hmg c
    refine ⟨K, KX, fd, K22.tf.map (He.cT K), Lw.SpW K (K22.a_law K), fun p hp => ?_, fun p hp => ?_, fun p hp => ?_, hb, fun H a ns hl _ hT hS => ?_, fun base h1 h2 hT => hF base h1 h2 fun p hp => hT _ (List.mem_map_of_mem hp)⟩
    · obtain ⟨q, hq, rfl⟩ := List.mem_map.mp hp
      exact t.empty q hq
    · obtain ⟨q, hq, rfl⟩ := List.mem_map.mp hp
      exact t.out q hq
    · obtain ⟨q, hq, rfl⟩ := List.mem_map.mp hp
      exact PySem.W.codeHd_of_K KX (t.hd q hq)
    · exact K22.law_sp (K22.tabs_ne c) (hT _ (List.mem_map_of_mem (by simp [K22.tf]))) (hT _ (List.mem_map_of_mem (by simp [K22.tf]))) (Nat.le_trans hl (by decide)) hS
