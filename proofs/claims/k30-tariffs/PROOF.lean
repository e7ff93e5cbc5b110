import PyProof.Rows.All
import Wide.All
import OpenK.AllK
import Wide.FinOn
import HandS.ForMost
import HandS.ForExc
import HandS.Defaults
import HandS.Walk
import HandS.CallSlots
import HandS.HeadHook2
import HandS.More
import HandS.IsInst
import HandS.TupAny
import PyProof.ListMulRight
import KE.KOpsOwn
import HandS.FStr
import HandS.Small
import HandS.Sort
import PyProof.ListRange
import PyProof.TwoTypes
import HandS.Dict
import HandS.ForDict
import KE.DataMinMax
import HandS.Iter
import KE.KSuper
import KE.KExcSuper
import KE.KExcIs
import KE.KExcMake
import HandS.Nested
import HandS.ClsMeth
import HandS.Exc
import HandS.ExcInit
import HandS.ExcField
import HandS.TryMany
import HandS.HotCalls
import HandS.Head0
import HandS.Head1
import HandS.Head2
import HandS.HeadHook4
import HandS.HeadEnd
import HandS.ExcIs
import HandS.Star
import KE.KTryMore
import PySem.Challenge.RW_valvewise_k30_tariffs
import KE.KStateDown
import HandS.Ends
set_option Elab.async false
set_option linter.all false
set_option maxRecDepth 100000
set_option maxHeartbeats 4000000
set_option autoImplicit false
/-! Ty, part A: worlds, representations, judgements of expressions and statements by predicate transformers -/
namespace Ty
open PySem PySem.Spec L2

abbrev Fg := PySem.W.Frag
/-- G is a part of H -/
def Ex (G H : Hp) : Prop := ∀ a o, G a = some o → H a = some o
theorem Ex.refl (G : Hp) : Ex G G := fun _ _ h => h
theorem Ex.trans {G H J : Hp} (a : Ex G H) (b : Ex H J) : Ex G J := fun x o h => b x o (a x o h)
theorem Ex.new {H : Hp} {p : Addr} {o : HO} (h : H p = none) : Ex H (upd H p o) := fun a u e => by
  rw [upd_ne (ne_of_none e h)]
  exact e
theorem Ex.rd {G H : Hp} {a : Addr} {u : HO} (e : Ex G H) (h : Rd G a u) : Rd H a u := by
  rcases h with h | ⟨o, h⟩
  · exact Or.inl (e a _ h)
  · exact Or.inr ⟨o, e a _ h⟩
theorem Ex.sl {K : Fg} {G H : Hp} {a : Addr} {xs : List V} (e : Ex G H) (h : SqL K G a xs) : SqL K H a xs := by
  rcases h with h | h
  · exact Or.inl (e.rd h)
  · exact Or.inr h
theorem Ex.st {K : Fg} {G H : Hp} {a : Addr} {xs : List V} (e : Ex G H) (h : SqT K G a xs) : SqT K H a xs := by
  rcases h with h | h
  · exact Or.inl (e.rd h)
  · exact Or.inr h

/-! ### what a value stands for -/
class Rp (α : Type) where
  rp : Fg → Hp → V → α → Prop
  mono : ∀ {K : Fg} {G G' : Hp} {v : V} {m : α}, Ex G G' → rp K G v m → rp K G' v m
abbrev rp {α : Type} [i : Rp α] (K : Fg) (G : Hp) (v : V) (m : α) : Prop := i.rp K G v m

instance rpI : Rp Int := ⟨fun _ _ v m => v = .int m, fun _ h => h⟩
instance rpB : Rp Bool := ⟨fun _ _ v m => v = .bl m, fun _ h => h⟩
instance rpS : Rp Str := ⟨fun _ _ v m => v = .str m, fun _ h => h⟩
instance rpN : Rp Unit := ⟨fun _ _ v _ => v = .non, fun _ h => h⟩
abbrev RpAll {α : Type} (i : Rp α) (K : Fg) (G : Hp) : List V → List α → Prop := Paired fun v m => i.rp K G v m
theorem RpAll.mono {α : Type} {i : Rp α} {K : Fg} {G G' : Hp} {vs : List V} {ms : List α} (e : Ex G G') (h : RpAll i K G vs ms) : RpAll i K G' vs ms := Paired.mapP h fun _ _ q => i.mono e q
theorem RpAll.get {α : Type} {i : Rp α} {K : Fg} {G : Hp} : ∀ {vs : List V} {ms : List α} {j : Nat} {m : α}, RpAll i K G vs ms → ms[j]? = some m → ∃ v, vs[j]? = some v ∧ i.rp K G v m
  | _, _, j, m, .nil, e => by simp at e
  | _, _, 0, m, .cons h _, e => by
    simp at e
    subst e
    exact ⟨_, rfl, h⟩
  | _, _, j + 1, m, .cons _ t, e => by
    obtain ⟨v, h1, h2⟩ := RpAll.get (j := j) t (by simpa using e)
    exact ⟨v, by simpa using h1, h2⟩
theorem RpAll.getV {α : Type} {i : Rp α} {K : Fg} {G : Hp} {vs : List V} {ms : List α} {j : Nat} {v : V} (h : RpAll i K G vs ms) (e : vs[j]? = some v) : ∃ m, ms[j]? = some m ∧ i.rp K G v m := by
  have hl := h.length
  have hj : j < vs.length := (List.getElem?_eq_some_iff.mp e).1
  have e2 : ms[j]? = some (ms[j]'(by omega)) := List.getElem?_eq_getElem _
  obtain ⟨v', h1, h2⟩ := h.get e2
  rw [e] at h1
  cases h1
  exact ⟨_, e2, h2⟩
/-- a Python list -/
instance rpL {α : Type} [i : Rp α] : Rp (List α) := ⟨fun K G v ms => ∃ a vs, v = .ref a ∧ G a = some (.lst vs) ∧ RpAll i K G vs ms ∧ vs.length ≤ sizeLine, fun e h => by
  obtain ⟨a, vs, h1, h2, h3, h4⟩ := h
  exact ⟨a, vs, h1, e _ _ h2, h3.mono e, h4⟩⟩
/-- a Python tuple of any length -/
structure Tu (α : Type) where
  l : List α
instance rpT {α : Type} [i : Rp α] : Rp (Tu α) := ⟨fun K G v ms => ∃ a vs, v = .ref a ∧ SqT K G a vs ∧ RpAll i K G vs ms.l ∧ vs.length ≤ sizeLine, fun e h => by
  obtain ⟨a, vs, h1, h2, h3, h4⟩ := h
  exact ⟨a, vs, h1, e.st h2, h3.mono e, h4⟩⟩
/-- a pair -/
instance rp2 {α β : Type} [i : Rp α] [j : Rp β] : Rp (α × β) := ⟨fun K G v m => ∃ a x y, v = .ref a ∧ SqT K G a [x, y] ∧ i.rp K G x m.1 ∧ j.rp K G y m.2, fun e h => by
  obtain ⟨a, x, y, h1, h2, h3, h4⟩ := h
  exact ⟨a, x, y, h1, e.st h2, i.mono e h3, j.mono e h4⟩⟩
/-- what may be read of a list that the program's text wrote is told by SqL -/
structure LiK (α : Type) where
  l : List α

/-! ### exceptions -/
structure Exn where
  cls : Str
  fs : List (Str × PyData)
def XRep (K : Fg) (G H : Hp) (cls : Value) (d : Option Addr) (e : Exn) : Prop :=
  cls = .ref (He.ga K e.cls) ∧ ∃ (a : Addr) (fs : List (Str × V)), d = some a ∧ G a = some (.xd fs) ∧ ∀ f x, e.fs.lookup f = some x → ∃ v, fs.lookup f = some v ∧ Dp K G v x

/-! ### worlds: G what is known for good, H the heap; a resource: the objects that may change -/
structure Rs where
  S : Hp → Addr → Prop
  I : Hp → Prop
  loc : ∀ {H H' : Hp}, I H → (∀ a, S H a → H' a = H a) → I H' ∧ ∀ a, S H' a ↔ S H a
  trk : ∀ {H : Hp} {a : Addr}, I H → S H a → H a ≠ none
def rs0 : Rs := ⟨fun _ _ => False, fun _ => True, fun _ _ => ⟨trivial, fun _ => Iff.rfl⟩, fun _ h => h.elim⟩
structure Wd (rs : Rs) (G H : Hp) : Prop where
  s : Ex G H
  i : rs.I H
  n : ∀ a, rs.S H a → G a = none
structure Gr (rs : Rs) (G H G' H' : Hp) : Prop where
  g : Ex G G'
  h : ∀ a o, ¬ rs.S H a → H a = some o → H' a = some o
  t : ∀ a, H a ≠ none → H' a ≠ none
  n : ∀ a, H a ≠ none → G a = none → G' a = none
  f : ∀ a, rs.S H' a → rs.S H a ∨ H a = none
  w : Wd rs G' H'
theorem Gr.refl {rs : Rs} {G H : Hp} (w : Wd rs G H) : Gr rs G H G H := ⟨Ex.refl _, fun _ _ _ h => h, fun _ h => h, fun _ _ h => h, fun _ h => .inl h, w⟩
theorem Gr.trans {rs : Rs} {G H G1 H1 G2 H2 : Hp} (a : Gr rs G H G1 H1) (b : Gr rs G1 H1 G2 H2) : Gr rs G H G2 H2 := by
  have notS : ∀ x o, ¬ rs.S H x → H x = some o → ¬ rs.S H1 x := fun x o hs hx q => by
    rcases a.f x q with z | z
    · exact hs z
    · rw [z] at hx
      cases hx
  refine ⟨a.g.trans b.g, fun x o hs hx => b.h x o (notS x o hs hx) (a.h x o hs hx), fun x hx => b.t x (a.t x hx), fun x hx hg => b.n x (a.t x hx) (a.n x hx hg), fun x hx => ?_, b.w⟩
  rcases b.f x hx with z | z
  · exact a.f x z
  · by_cases q : H x = none
    · exact .inr q
    · exact absurd z (a.t x q)
theorem some_ne {H : Hp} {a : Addr} {o : HO} (h : H a = some o) : H a ≠ none := by rw [h]; exact fun q => by cases q
/-- pure growth -/
theorem gr_up {rs : Rs} {G H G' H' : Hp} (w : Wd rs G H) (g : Ex G G') (h : Ex H H') (s : Ex G' H') (n : ∀ a, H a ≠ none → G a = none → G' a = none) : Gr rs G H G' H' := by
  have hs : ∀ a, rs.S H a → H' a = H a := fun a ha => by
    cases e : H a with
    | none => exact absurd e (rs.trk w.i ha)
    | some o => exact h a o e
  obtain ⟨i', s'⟩ := rs.loc w.i hs
  refine ⟨g, fun a o _ e => h a o e, fun a e => ?_, n, fun a ha => .inl ((s' a).mp ha), ⟨s, i', fun a ha => ?_⟩⟩
  · cases q : H a with
    | none => exact absurd q e
    | some o => exact some_ne (h a o q)
  · exact n a (rs.trk w.i ((s' a).mp ha)) (w.n a ((s' a).mp ha))
/-- a new object, known for good -/
theorem gr_new {rs : Rs} {G H : Hp} {p : Addr} {o : HO} (w : Wd rs G H) (hp : H p = none) : Gr rs G H (upd G p o) (upd H p o) := by
  have gp : G p = none := by
    cases e : G p with
    | none => rfl
    | some u =>
      have := w.s p u e
      rw [hp] at this
      cases this
  refine gr_up w (Ex.new gp) (Ex.new hp) (fun a u e => ?_) fun a ha hg => ?_
  · by_cases q : a = p
    · subst q
      rw [upd_same] at e ⊢
      exact e
    · rw [upd_ne q] at e ⊢
      exact w.s a u e
  · have q : a ≠ p := fun z => ha (z ▸ hp)
    rw [upd_ne q]
    exact hg
/-- a new object that may change yet -/
theorem gr_newH {rs : Rs} {G H : Hp} {p : Addr} {o : HO} (w : Wd rs G H) (hp : H p = none) : Gr rs G H G (upd H p o) :=
  gr_up w (Ex.refl _) (Ex.new hp) (w.s.trans (Ex.new hp)) fun _ _ h => h
/-- an own object is changed -/
theorem gr_mut {rs : Rs} {G0 H0 G H : Hp} {l : Addr} {o : HO} (g : Gr rs G0 H0 G H) (h0 : H0 l = none) (hg : G l = none) (hs : ¬ rs.S H l) (hl : H l ≠ none) : Gr rs G0 H0 G (upd H l o) := by
  have e : ∀ a, rs.S H a → upd H l o a = H a := fun a ha => upd_ne fun z => hs (z ▸ ha)
  obtain ⟨i', s'⟩ := rs.loc g.w.i e
  refine ⟨g.g, fun a u ha q => ?_, fun a q => ?_, g.n, fun a ha => g.f a ((s' a).mp ha), ⟨fun a u q => ?_, i', fun a ha => g.w.n a ((s' a).mp ha)⟩⟩
  · rw [upd_ne (ne_of_none q h0)]
    exact g.h a u ha q
  · by_cases z : a = l
    · rw [z, upd_same]
      exact fun q => by cases q
    · rw [upd_ne z]
      exact g.t a q
  · rw [upd_ne (ne_of_none q hg)]
    exact g.w.s a u q
/-- from no resource to any -/
theorem Gr.lift {rs : Rs} {G H G' H' : Hp} (w : Wd rs G H) (g : Gr rs0 G H G' H') : Gr rs G H G' H' :=
  gr_up w g.g (fun a o e => g.h a o (fun z => z) e) g.w.s g.n
theorem Wd.to0 {rs : Rs} {G H : Hp} (w : Wd rs G H) : Wd rs0 G H := ⟨w.s, trivial, fun _ h => h.elim⟩

/-! ### slots -/
inductive Sl : Type 1 where
  | no
  | val {α : Type} (i : Rp α) (m : α)
  | ml {α : Type} (i : Rp α) (xs : List α)
  | md {α : Type} (i : Rp α) (kvs : List (Key × α))
  | oi (l C : Addr) (fs : List (Str × (Fg → Hp → V → Prop)))
  | rf (a : Addr)
def Sl.own : Sl → Bool
  | .ml _ _ => true
  | .md _ _ => true
  | .oi _ _ _ => true
  | _ => false
/-- a dict's pairs -/
abbrev KvAll {α : Type} (i : Rp α) (K : Fg) (G : Hp) : List (Key × V) → List (Key × α) → Prop := Paired fun p q => p.1 = q.1 ∧ i.rp K G p.2 q.2
theorem KvAll.mono {α : Type} {i : Rp α} {K : Fg} {G G' : Hp} {vs : List (Key × V)} {ms : List (Key × α)} (e : Ex G G') (h : KvAll i K G vs ms) : KvAll i K G' vs ms := Paired.mapP h fun _ _ q => ⟨q.1, i.mono e q.2⟩
/-- an instance's fields: names in order, what is known of each -/
inductive FlAll (K : Fg) (G : Hp) : List (Str × V) → List (Str × (Fg → Hp → V → Prop)) → Prop
  | nil : FlAll K G [] []
  | cons {f : Str} {v : V} {p : Fg → Hp → V → Prop} {vs : List (Str × V)} {ps : List (Str × (Fg → Hp → V → Prop))} : (∀ G', Ex G G' → p K G' v) → FlAll K G vs ps → FlAll K G ((f, v) :: vs) ((f, p) :: ps)
theorem FlAll.mono {K : Fg} {G G' : Hp} {vs : List (Str × V)} {ps : List (Str × (Fg → Hp → V → Prop))} (e : Ex G G') (h : FlAll K G vs ps) : FlAll K G' vs ps := by
  induction h with
  | nil => exact .nil
  | cons h _ ih => exact .cons (fun G2 e2 => h G2 (e.trans e2)) ih
def SlOk (K : Fg) (rs : Rs) (H0 G H : Hp) (s : Option (Option V)) : Sl → Prop
  | .no => True
  | .val i m => ∃ v, s = some (some v) ∧ i.rp K G v m
  | .ml i xs => ∃ l vs, s = some (some (.ref l)) ∧ H l = some (.lst vs) ∧ RpAll i K G vs xs ∧ H0 l = none ∧ G l = none ∧ ¬ rs.S H l
  | .md i kvs => ∃ l vs, s = some (some (.ref l)) ∧ H l = some (.dK vs) ∧ KvAll i K G vs kvs ∧ H0 l = none ∧ G l = none ∧ ¬ rs.S H l
  | .oi l C fs => ∃ dx vs, s = some (some (.ref l)) ∧ H l = some (.ins C dx vs) ∧ FlAll K G vs fs ∧ H0 l = none ∧ G l = none ∧ ¬ rs.S H l ∧ H dx = some (.own l) ∧ H0 dx = none ∧ G dx = none ∧ ¬ rs.S H dx
  | .rf a => s = some (some (.ref a))
structure En (K : Fg) (rs : Rs) (H0 G H : Hp) (σ : L2.St) (ρ : List Sl) : Prop where
  len : σ.length = ρ.length
  ok : ∀ (i : Nat) (x : Sl), ρ[i]? = some x → SlOk K rs H0 G H σ[i]? x
  sep : ∀ (i j : Nat) (x y : Sl) (l : Addr), i ≠ j → ρ[i]? = some x → ρ[j]? = some y → x.own = true → y.own = true → σ[i]? = some (some (.ref l)) → σ[j]? = some (some (.ref l)) → False
theorem SlOk.up {K : Fg} {rs : Rs} {H0 G H G' H' : Hp} {s : Option (Option V)} {x : Sl} (g : Gr rs G H G' H') (h : SlOk K rs H0 G H s x) : SlOk K rs H0 G' H' s x := by
  cases x with
  | no => trivial
  | val i m =>
    obtain ⟨v, h1, h2⟩ := h
    exact ⟨v, h1, i.mono g.g h2⟩
  | ml i xs =>
    obtain ⟨l, vs, h1, h2, h3, h4, h5, h6⟩ := h
    refine ⟨l, vs, h1, g.h l _ h6 h2, h3.mono g.g, h4, g.n l (some_ne h2) h5, fun z => ?_⟩
    rcases g.f l z with q | q
    · exact h6 q
    · rw [q] at h2
      cases h2
  | md i kvs =>
    obtain ⟨l, vs, h1, h2, h3, h4, h5, h6⟩ := h
    refine ⟨l, vs, h1, g.h l _ h6 h2, h3.mono g.g, h4, g.n l (some_ne h2) h5, fun z => ?_⟩
    rcases g.f l z with q | q
    · exact h6 q
    · rw [q] at h2
      cases h2
  | oi l C fs =>
    obtain ⟨dx, vs, h1, h2, h3, h4, h5, h6, h7, h8, h9, h10⟩ := h
    refine ⟨dx, vs, h1, g.h l _ h6 h2, h3.mono g.g, h4, g.n l (some_ne h2) h5, fun z => ?_, g.h dx _ h10 h7, h8, g.n dx (some_ne h7) h9, fun z => ?_⟩
    · rcases g.f l z with q | q
      · exact h6 q
      · rw [q] at h2
        cases h2
    · rcases g.f dx z with q | q
      · exact h10 q
      · rw [q] at h7
        cases h7
  | rf a => exact h
theorem En.up {K : Fg} {rs : Rs} {H0 G H G' H' : Hp} {σ : L2.St} {ρ : List Sl} (g : Gr rs G H G' H') (h : En K rs H0 G H σ ρ) : En K rs H0 G' H' σ ρ :=
  ⟨h.len, fun i x e => (h.ok i x e).up g, h.sep⟩
theorem En.val {K : Fg} {rs : Rs} {H0 G H : Hp} {σ : L2.St} {ρ : List Sl} {j : Nat} {α : Type} {i : Rp α} {m : α} (h : En K rs H0 G H σ ρ) (e : ρ[j]? = some (.val i m)) : ∃ v, σ[j]? = some (some v) ∧ i.rp K G v m := h.ok j _ e
theorem get_set.{u} {α : Type u} {l : List α} {i j : Nat} {a b : α} (h : (l.set i a)[j]? = some b) : (i = j ∧ b = a ∧ i < l.length) ∨ (i ≠ j ∧ l[j]? = some b) := by
  by_cases q : i = j
  · subst q
    by_cases z : i < l.length
    · rw [List.getElem?_set_self z] at h
      exact .inl ⟨rfl, (Option.some.inj h).symm, z⟩
    · rw [List.getElem?_eq_none (by simpa using z)] at h
      cases h
  · rw [List.getElem?_set_ne q] at h
    exact .inr ⟨q, h⟩
/-- a slot is stored (not an own object) -/
theorem En.set {K : Fg} {rs : Rs} {H0 G H : Hp} {σ : L2.St} {ρ : List Sl} {j : Nat} {v : V} {x : Sl} (h : En K rs H0 G H σ ρ) (hx : SlOk K rs H0 G H (some (some v)) x) (hn : x.own = false) : En K rs H0 G H (σ.set j (some v)) (ρ.set j x) := by
  refine ⟨by simp [h.len], fun i y e => ?_, fun i k y z l ne e1 e2 o1 o2 s1 s2 => ?_⟩
  · rcases get_set e with ⟨rfl, rfl, z⟩ | ⟨q, e⟩
    · rw [List.getElem?_set_self (by rw [h.len]; exact z)]
      exact hx
    · rw [List.getElem?_set_ne q]
      exact h.ok i y e
  · rcases get_set e1 with ⟨_, rfl, _⟩ | ⟨q1, e1⟩
    · rw [hn] at o1; cases o1
    rcases get_set e2 with ⟨_, rfl, _⟩ | ⟨q2, e2⟩
    · rw [hn] at o2; cases o2
    rw [List.getElem?_set_ne q1] at s1
    rw [List.getElem?_set_ne q2] at s2
    exact h.sep i k y z l ne e1 e2 o1 o2 s1 s2
/-- less is known -/
inductive SlLe : Sl → Sl → Prop
  | refl (x : Sl) : SlLe x x
  | no (x : Sl) : SlLe x .no
inductive EnLe : List Sl → List Sl → Prop
  | nil : EnLe [] []
  | cons {x y : Sl} {r s : List Sl} : SlLe x y → EnLe r s → EnLe (x :: r) (y :: s)
theorem EnLe.len : ∀ {r s : List Sl}, EnLe r s → r.length = s.length
  | _, _, .nil => rfl
  | _, _, .cons _ t => congrArg Nat.succ t.len
theorem EnLe.get : ∀ {r s : List Sl} {i : Nat} {y : Sl}, EnLe r s → s[i]? = some y → ∃ x, r[i]? = some x ∧ SlLe x y
  | _, _, i, y, .nil, e => by simp at e
  | _, _, 0, y, .cons h _, e => by
    simp at e
    subst e
    exact ⟨_, rfl, h⟩
  | _, _, i + 1, y, .cons _ t, e => by
    obtain ⟨x, h1, h2⟩ := EnLe.get (i := i) t (by simpa using e)
    exact ⟨x, by simpa using h1, h2⟩
theorem EnLe.rfl' : ∀ (r : List Sl), EnLe r r
  | [] => .nil
  | x :: r => .cons (.refl x) (EnLe.rfl' r)
theorem En.le {K : Fg} {rs : Rs} {H0 G H : Hp} {σ : L2.St} {ρ ρ' : List Sl} (h : En K rs H0 G H σ ρ) (e : EnLe ρ ρ') : En K rs H0 G H σ ρ' := by
  refine ⟨h.len.trans e.len, fun i y q => ?_, fun i k y z l ne e1 e2 o1 o2 s1 s2 => ?_⟩
  · obtain ⟨x, h1, h2⟩ := e.get q
    cases h2 with
    | refl => exact h.ok i _ h1
    | no => trivial
  · obtain ⟨x1, h1, h2⟩ := e.get e1
    obtain ⟨x2, h3, h4⟩ := e.get e2
    cases h2 with
    | no => cases o1
    | refl => cases h4 with
      | no => cases o2
      | refl => exact h.sep i k _ _ l ne h1 h3 o1 o2 s1 s2

/-! ### the context, the judgements -/
structure Cn where
  rs : Rs
  G0 : Hp
  H0 : Hp
  wsh : Value → Option Addr → L2.St → Hp → Prop
abbrev Pt (α : Type) := (α → Prop) → (Exn → Prop) → Prop
/-- what is wanted of an exception, from a world on -/
def XOk (X : Cx) (c : Cn) (G H : Hp) (σ : L2.St) (ep : Exn → Prop) : Prop := ∀ G' H' cls d e, Gr c.rs G H G' H' → XRep X.K G' H' cls d e → ep e → c.wsh cls d σ H'
theorem XOk.up {X : Cx} {c : Cn} {G H G' H' : Hp} {σ : L2.St} {ep : Exn → Prop} (h : XOk X c G H σ ep) (g : Gr c.rs G H G' H') : XOk X c G' H' σ ep := fun G2 H2 cls d e g2 => h G2 H2 cls d e (g.trans g2)
structure JE (X : Cx) (c : Cn) (e : Expr) (ρ : List Sl) {α : Type} (i : Rp α) (t : TE) (Φ : Pt α) : Prop where
  pe : PE X e t
  sem : ∀ post ep, Φ post ep → ∀ G H σ, Wd c.rs G H → En X.K c.rs c.H0 G H σ ρ → ∀ Q : VK, (∀ G' H' v m, Gr c.rs G H G' H' → i.rp X.K G' v m → post m → Q v H') → XOk X c G H σ ep → t σ H Q
structure JT (X : Cx) (c : Cn) (e : Expr) (ρ : List Sl) (t : TT) (Φ : Pt Bool) : Prop where
  pe : PT X e t
  sem : ∀ post ep, Φ post ep → ∀ G H σ, Wd c.rs G H → En X.K c.rs c.H0 G H σ ρ → ∀ Q : Bool → Hp → Prop, (∀ G' H' m, Gr c.rs G H G' H' → post m → Q m H') → XOk X c G H σ ep → t σ H Q
/-- and, or within a test -/
structure JW (X : Cx) (c : Cn) (e : Expr) (ρ : List Sl) (t : TT) (Φ : Pt Bool) : Prop where
  pe : PW X e t
  sem : ∀ post ep, Φ post ep → ∀ G H σ, Wd c.rs G H → En X.K c.rs c.H0 G H σ ρ → ∀ Q : Bool → Hp → Prop, (∀ G' H' m, Gr c.rs G H G' H' → post m → Q m H') → XOk X c G H σ ep → t σ H Q
/-- arguments as typed data -/
inductive ArgOk (K : Fg) (G : Hp) : V → Sl → Prop
  | val {α : Type} {i : Rp α} {m : α} {v : V} : i.rp K G v m → ArgOk K G v (.val i m)
  | rf {a : Addr} : ArgOk K G (.ref a) (.rf a)
theorem ArgOk.mono {K : Fg} {G G' : Hp} {v : V} {x : Sl} (e : Ex G G') (h : ArgOk K G v x) : ArgOk K G' v x := by
  cases h with
  | val h => exact .val (Rp.mono e h)
  | rf => exact .rf
inductive ArgsOk (K : Fg) (G : Hp) : List V → List Sl → Prop
  | nil : ArgsOk K G [] []
  | cons {v : V} {x : Sl} {vs : List V} {xs : List Sl} : ArgOk K G v x → ArgsOk K G vs xs → ArgsOk K G (v :: vs) (x :: xs)
theorem ArgsOk.mono {K : Fg} {G G' : Hp} {vs : List V} {xs : List Sl} (e : Ex G G') (h : ArgsOk K G vs xs) : ArgsOk K G' vs xs := by
  induction h with
  | nil => exact .nil
  | cons h _ ih => exact .cons (h.mono e) ih
theorem ArgsOk.len {K : Fg} {G : Hp} {vs : List V} {xs : List Sl} (h : ArgsOk K G vs xs) : vs.length = xs.length := by
  induction h with
  | nil => rfl
  | cons _ _ ih => exact congrArg Nat.succ ih
abbrev aNil : Unit → List Sl := fun _ => []
abbrev aCons {α ι : Type} (i : Rp α) (as : ι → List Sl) : α × ι → List Sl := fun x => .val i x.1 :: as x.2
abbrev aRf {ι : Type} (a : Addr) (as : ι → List Sl) : ι → List Sl := fun x => .rf a :: as x
structure JA (X : Cx) (c : Cn) (es : List Expr) (ρ : List Sl) {ι : Type} (as : ι → List Sl) (t : TA) (Φ : Pt ι) : Prop where
  pe : PA X es t
  sem : ∀ post ep, Φ post ep → ∀ G H σ, Wd c.rs G H → En X.K c.rs c.H0 G H σ ρ → ∀ Q : List V → Hp → Prop, (∀ G' H' vs x, Gr c.rs G H G' H' → ArgsOk X.K G' vs (as x) → post x → Q vs H') → XOk X c G H σ ep → t σ H Q

inductive Out (S L β : Type) where
  | nx (s : S)
  | rt (b : β)
  | bk (l : L)
  | ct (l : L)
/-- Gb: what is known for good where the block begins -/
structure EndsOk (X : Cx) (c : Cn) (Gb : Hp) {S L β : Type} (i : Rp β) (out : S → List Sl) (lp : L → List Sl) (post : Out S L β → Prop) (D : Ends) : Prop where
  nx : ∀ G' H' σ' s, Gr c.rs c.G0 c.H0 G' H' → Ex Gb G' → En X.K c.rs c.H0 G' H' σ' (out s) → post (.nx s) → D.nx σ' H'
  rt : ∀ G' H' v b, Gr c.rs c.G0 c.H0 G' H' → Ex Gb G' → i.rp X.K G' v b → post (.rt b) → D.rt v H'
  bk : ∀ G' H' σ' l, Gr c.rs c.G0 c.H0 G' H' → Ex Gb G' → En X.K c.rs c.H0 G' H' σ' (lp l) → post (.bk l) → D.bk σ' H'
  ct : ∀ G' H' σ' l, Gr c.rs c.G0 c.H0 G' H' → Ex Gb G' → En X.K c.rs c.H0 G' H' σ' (lp l) → post (.ct l) → D.ct σ' H'
theorem EndsOk.up {X : Cx} {c : Cn} {Gb G1 : Hp} {S L β : Type} {i : Rp β} {out : S → List Sl} {lp : L → List Sl} {post : Out S L β → Prop} {D : Ends} (h : EndsOk X c Gb i out lp post D) (e : Ex Gb G1) : EndsOk X c G1 i out lp post D :=
  ⟨fun G' H' σ' s g x => h.nx G' H' σ' s g (e.trans x), fun G' H' v b g x => h.rt G' H' v b g (e.trans x), fun G' H' σ' s g x => h.bk G' H' σ' s g (e.trans x), fun G' H' σ' s g x => h.ct G' H' σ' s g (e.trans x)⟩
/-- .. from the entry on, whatever the slots -/
def XOkS (X : Cx) (c : Cn) (ep : Exn → Prop) : Prop := ∀ G' H' σ' cls d e, Gr c.rs c.G0 c.H0 G' H' → XRep X.K G' H' cls d e → ep e → c.wsh cls d σ' H'
theorem XOkS.at {X : Cx} {c : Cn} {ep : Exn → Prop} (h : XOkS X c ep) {G H : Hp} {σ : L2.St} (g : Gr c.rs c.G0 c.H0 G H) : XOk X c G H σ ep := fun G' H' cls d e g' => h G' H' σ cls d e (g.trans g')
structure JB (X : Cx) (c : Cn) (ss : List Stmt) (ρ : List Sl) {S L β : Type} (out : S → List Sl) (lp : L → List Sl) (i : Rp β) (t : TS) (Φ : Pt (Out S L β)) : Prop where
  pe : PSs X ss t
  sem : ∀ post ep, Φ post ep → ∀ G H σ, Gr c.rs c.G0 c.H0 G H → En X.K c.rs c.H0 G H σ ρ → ∀ D : Ends, EndsOk X c G i out lp post D → XOkS X c ep → t D σ H
end Ty

set_option Elab.async false
set_option linter.all false
set_option maxRecDepth 100000
set_option maxHeartbeats 4000000
set_option autoImplicit false
/-! Ty, part B: expressions -/
namespace Ty
open PySem PySem.Spec L2

/-! ### operators by values -/
structure OpW (X : Cx) (F : Value → Value → Sem Value) {α β γ : Type} (iα : Rp α) (iβ : Rp β) (iγ : Rp γ) (r : R2) (Φ : α → β → Pt γ) : Prop where
  pe : OpR X F r
  sem : ∀ (rs : Rs) (G H : Hp) (x y : V) (a : α) (b : β) (post : γ → Prop) (ep : Exn → Prop) (Q : VK), Wd rs G H → iα.rp X.K G x a → iβ.rp X.K G y b → Φ a b post ep →
    (∀ G' H' z m, Gr rs G H G' H' → iγ.rp X.K G' z m → post m → Q z H') → r x y H Q
structure UnW (X : Cx) (F : Value → Sem Value) {α γ : Type} (iα : Rp α) (iγ : Rp γ) (r : V → Hp → VK → Prop) (Φ : α → Pt γ) : Prop where
  pe : UnR X F r
  sem : ∀ (rs : Rs) (G H : Hp) (x : V) (a : α) (post : γ → Prop) (ep : Exn → Prop) (Q : VK), Wd rs G H → iα.rp X.K G x a → Φ a post ep →
    (∀ G' H' z m, Gr rs G H G' H' → iγ.rp X.K G' z m → post m → Q z H') → r x H Q
/-- a call of a built-in by values -/
structure CallW (X : Cx) (F : Value) {ι γ : Type} (as : ι → List Sl) (iγ : Rp γ) (r : List V → Hp → VK → Prop) (Φ : ι → Pt γ) : Prop where
  pe : CallR X F r
  sem : ∀ (rs : Rs) (G H : Hp) (vs : List V) (x : ι) (post : γ → Prop) (ep : Exn → Prop) (Q : VK), Wd rs G H → ArgsOk X.K G vs (as x) → Φ x post ep →
    (∀ G' H' z m, Gr rs G H G' H' → iγ.rp X.K G' z m → post m → Q z H') → r vs H Q
structure IxW (X : Cx) {α β γ : Type} (iα : Rp α) (iβ : Rp β) (iγ : Rp γ) (r : R2) (Φ : α → β → Pt γ) : Prop where
  pe : IxR X r
  sem : ∀ (rs : Rs) (G H : Hp) (x y : V) (a : α) (b : β) (post : γ → Prop) (ep : Exn → Prop) (Q : VK), Wd rs G H → iα.rp X.K G x a → iβ.rp X.K G y b → Φ a b post ep →
    (∀ G' H' z m, Gr rs G H G' H' → iγ.rp X.K G' z m → post m → Q z H') → r x y H Q
def TruW {α : Type} (i : Rp α) (f : α → Bool) : Prop := ∀ (K : Fg) (G H : Hp) (v : V) (m : α), Ex G H → i.rp K G v m → TruV K v H (f m)

abbrev rAddT : R2 := fun x y H Q => ∃ i j, x = .str i ∧ y = .str j ∧ i.length + j.length ≤ sizeLine ∧ Q (.str (i ++ j)) H
abbrev rAbs : List V → Hp → VK → Prop := fun xs H Q => ∃ i, xs = [.int i] ∧ Q (.int (if i < 0 then -i else i)) H
abbrev rMax2 : List V → Hp → VK → Prop := fun xs H Q => ∃ i j, xs = [.int i, .int j] ∧ Q (.int (if j > i then j else i)) H
abbrev rMin2 : List V → Hp → VK → Prop := fun xs H Q => ∃ i j, xs = [.int i, .int j] ∧ Q (.int (if j < i then j else i)) H
abbrev rInt1 : List V → Hp → VK → Prop := fun xs H Q => (∃ i, xs = [.int i] ∧ Q (.int i) H) ∨ ∃ k, xs = [.bl k] ∧ Q (.int (if k then 1 else 0)) H
abbrev rBool1 : List V → Hp → VK → Prop := fun xs H Q => (∃ i, xs = [.int i] ∧ Q (.bl (i != 0)) H) ∨ ∃ k, xs = [.bl k] ∧ Q (.bl k) H
abbrev rStrI : List V → Hp → VK → Prop := fun xs H Q => ∃ i, xs = [.int i] ∧ i.natAbs.log2 < 1920 ∧ Q (.str (toString i)) H
abbrev rLenQ (K : Fg) : List V → Hp → VK → Prop := fun xs H Q => ∃ p ys, xs = [.ref p] ∧ (SqL K H p ys ∨ SqT K H p ys) ∧ Q (.int ys.length) H
abbrev rLenV (K : Fg) : List V → Hp → VK → Prop := fun xs H Q => ∃ x n, xs = [x] ∧ LenV K x H n ∧ Q (.int n) H
theorem one1 {K : Fg} {G : Hp} {vs : List V} {α : Type} {i : Rp α} {m : α} (h : ArgsOk K G vs [.val i m]) : ∃ v, vs = [v] ∧ i.rp K G v m := by
  cases h with
  | cons h t =>
    cases t
    cases h with
    | val h => exact ⟨_, rfl, h⟩
theorem two2 {K : Fg} {G : Hp} {vs : List V} {α β : Type} {i : Rp α} {j : Rp β} {m : α} {n : β} (h : ArgsOk K G vs [.val i m, .val j n]) : ∃ v u, vs = [v, u] ∧ i.rp K G v m ∧ j.rp K G u n := by
  cases h with
  | cons h t =>
    obtain ⟨u, rfl, h2⟩ := one1 t
    cases h with
    | val h => exact ⟨_, u, rfl, h, h2⟩

section
variable {X : Cx}
theorem opw_I {F : Value → Value → Sem Value} {C : Int → Int → Prop} {g : Int → Int → Int} (h : OpR X F (rI C fun i j => .int (g i j))) : OpW X F rpI rpI rpI (rI C fun i j => .int (g i j)) (fun a b post _ => C a b ∧ post (g a b)) :=
  ⟨h, fun rs G H x y a b post ep Q w hx hy φ k => ⟨a, b, hx, hy, φ.1, k G H _ _ (Gr.refl w) rfl φ.2⟩⟩
theorem opw_I0 {F : Value → Value → Sem Value} {g : Int → Int → Int} (h : OpR X F (rI0 fun i j => .int (g i j))) : OpW X F rpI rpI rpI (rI0 fun i j => .int (g i j)) (fun a b post _ => post (g a b)) :=
  ⟨h, fun rs G H x y a b post ep Q w hx hy φ k => ⟨a, b, hx, hy, k G H _ _ (Gr.refl w) rfl φ⟩⟩
theorem opw_B0 {F : Value → Value → Sem Value} {g : Int → Int → Bool} (h : OpR X F (rI0 fun i j => .bl (g i j))) : OpW X F rpI rpI rpB (rI0 fun i j => .bl (g i j)) (fun a b post _ => post (g a b)) :=
  ⟨h, fun rs G H x y a b post ep Q w hx hy φ k => ⟨a, b, hx, hy, k G H _ _ (Gr.refl w) rfl φ⟩⟩
theorem add_I : OpW X (binaryOp .Add) rpI rpI rpI (rI0 fun i j => .int (i + j)) (fun a b post _ => post (a + b)) := opw_I0 op_add
theorem sub_I : OpW X (binaryOp .Sub) rpI rpI rpI (rI0 fun i j => .int (i - j)) (fun a b post _ => post (a - b)) := opw_I0 op_sub
theorem mul_I : OpW X (binaryOp .Mult) rpI rpI rpI (rI CMul fun i j => .int (i * j)) (fun a b post _ => CMul a b ∧ post (a * b)) := opw_I op_mul
theorem mod_I : OpW X (binaryOp .Mod) rpI rpI rpI (rI (fun _ j => 0 < j) fun i j => .int (i % j)) (fun a b post _ => 0 < b ∧ post (a % b)) := opw_I op_mod
theorem fdiv_I : OpW X (binaryOp .FloorDiv) rpI rpI rpI (rI CDiv fun i j => .int (i / j)) (fun a b post _ => CDiv a b ∧ post (a / b)) := opw_I op_fdiv
theorem pow_I : OpW X (binaryOp .Pow) rpI rpI rpI (rI CPow fun i j => .int (i ^ j.toNat)) (fun a b post _ => CPow a b ∧ post (a ^ b.toNat)) := opw_I op_pow
theorem add_S : OpW X (binaryOp .Add) rpS rpS rpS rAddT (fun a b post _ => a.length + b.length ≤ sizeLine ∧ post (a ++ b)) :=
  ⟨op_add_str, fun rs G H x y a b post ep Q w hx hy φ k => ⟨a, b, hx, hy, φ.1, k G H _ _ (Gr.refl w) rfl φ.2⟩⟩
/-- lists -/
theorem RpAll.append {α : Type} {i : Rp α} {K : Fg} {G : Hp} : ∀ {vs us : List V} {ms ns : List α}, RpAll i K G vs ms → RpAll i K G us ns → RpAll i K G (vs ++ us) (ms ++ ns)
  | _, _, _, _, .nil, h => h
  | _, _, _, _, .cons a t, h => .cons a (RpAll.append t h)
theorem add_L {α : Type} {i : Rp α} : OpW X (binaryOp .Add) (rpL (i := i)) (rpL (i := i)) (rpL (i := i)) rCat (fun a b post _ => a.length + b.length ≤ sizeLine ∧ post (a ++ b)) :=
  ⟨op_cat, fun rs G H x y a b post ep Q w hx hy φ k => by
    obtain ⟨l, vs, rfl, h1, h2, h3⟩ := hx
    obtain ⟨l', us, rfl, h4, h5, h6⟩ := hy
    have e1 := h2.length
    have e2 := h5.length
    have hz : vs.length + us.length ≤ sizeLine := by rw [e1, e2]; exact φ.1
    refine ⟨l, l', vs, us, rfl, rfl, w.s _ _ h1, w.s _ _ h4, hz, fun p hp => ?_⟩
    have g := gr_new (o := .lst (vs ++ us)) w hp
    exact k _ _ _ _ g ⟨p, vs ++ us, rfl, upd_same, (h2.append h5).mono g.g, by rw [List.length_append]; exact hz⟩ φ.2⟩
theorem lt_I : OpW X (compareOp .Lt) rpI rpI rpB (rI0 fun i j => .bl (decide (i < j))) (fun a b post _ => post (decide (a < b))) := opw_B0 op_lt
theorem le_I : OpW X (compareOp .LtE) rpI rpI rpB (rI0 fun i j => .bl (decide (i ≤ j))) (fun a b post _ => post (decide (a ≤ b))) := opw_B0 op_le
theorem gt_I : OpW X (compareOp .Gt) rpI rpI rpB (rI0 fun i j => .bl (decide (j < i))) (fun a b post _ => post (decide (b < a))) := opw_B0 op_gt
theorem ge_I : OpW X (compareOp .GtE) rpI rpI rpB (rI0 fun i j => .bl (decide (j ≤ i))) (fun a b post _ => post (decide (b ≤ a))) := opw_B0 op_ge
/-- values that are no objects: == by the value -/
class Sc (α : Type) [DecidableEq α] (i : Rp α) where
  out : ∀ {K : Fg} {G : Hp} {x y : V} {a b : α}, i.rp K G x a → i.rp K G y b → scal x y = true ∧ decide (x = y) = decide (a = b)
instance : Sc Int rpI := ⟨fun {K G x y a b} h1 h2 => by
  obtain rfl : x = .int a := h1
  obtain rfl : y = .int b := h2
  exact ⟨rfl, by simp⟩⟩
instance : Sc Bool rpB := ⟨fun {K G x y a b} h1 h2 => by
  obtain rfl : x = .bl a := h1
  obtain rfl : y = .bl b := h2
  exact ⟨rfl, by simp⟩⟩
instance : Sc Str rpS := ⟨fun {K G x y a b} h1 h2 => by
  obtain rfl : x = .str a := h1
  obtain rfl : y = .str b := h2
  exact ⟨rfl, by simp⟩⟩
theorem eq_V {α : Type} [DecidableEq α] {i : Rp α} [s : Sc α i] : OpW X (compareOp .Eq) i i rpB rEq (fun a b post _ => post (decide (a = b))) :=
  ⟨op_eq, fun rs G H x y a b post ep Q w hx hy φ k => by
    obtain ⟨h1, h2⟩ := s.out hx hy
    exact ⟨h1, k G H _ _ (Gr.refl w) (by rw [h2]; rfl) φ⟩⟩
theorem ne_V {α : Type} [DecidableEq α] {i : Rp α} [s : Sc α i] : OpW X (compareOp .NotEq) i i rpB rNe (fun a b post _ => post (!decide (a = b))) :=
  ⟨op_ne, fun rs G H x y a b post ep Q w hx hy φ k => by
    obtain ⟨h1, h2⟩ := s.out hx hy
    exact ⟨h1, k G H _ _ (Gr.refl w) (by rw [h2]; rfl) φ⟩⟩
theorem neg_I : UnW X (unaryOp .USub) rpI rpI (rU fun i => .int (-i)) (fun a post _ => post (-a)) :=
  ⟨un_neg, fun rs G H x a post ep Q w hx φ k => ⟨a, hx, k G H _ _ (Gr.refl w) rfl φ⟩⟩

/-! ### items -/
def atN {α : Type} (xs : List α) (i : Int) : Option α := if 0 ≤ i then xs[i.toNat]? else if 0 ≤ i + xs.length then xs[(i + xs.length).toNat]? else none
theorem RpAll.at {α : Type} {i : Rp α} {K : Fg} {G : Hp} {vs : List V} {ms : List α} {k : Int} {m : α} (h : RpAll i K G vs ms) (e : atI ms k = some m) : ∃ v, atI vs k = some v ∧ i.rp K G v m := by
  have hl := h.length
  unfold atI at e ⊢
  rw [hl]
  cases q : ixN ms.length k with
  | none =>
    rw [q] at e
    cases e
  | some j =>
    rw [q] at e
    obtain ⟨v, h1, h2⟩ := h.get (j := j) e
    exact ⟨v, h1, h2⟩
theorem ix_L {α : Type} {i : Rp α} : IxW X (rpL (i := i)) rpI i (rIxL X.K) (fun xs k post _ => ∃ m, atI xs k = some m ∧ post m) :=
  ⟨ix_list, fun rs G H x y a b post ep Q w hx hy φ k => by
    obtain ⟨l, vs, rfl, h1, h2, h3⟩ := hx
    obtain ⟨m, e, p⟩ := φ
    obtain ⟨v, e1, r⟩ := h2.at e
    exact ⟨l, vs, b, v, rfl, hy, SqL.of (w.s _ _ h1), e1, k G H _ _ (Gr.refl w) r p⟩⟩
theorem ix_T {α : Type} {i : Rp α} : IxW X (rpT (i := i)) rpI i (rIxT X.K) (fun xs k post _ => ∃ m, atI xs.l k = some m ∧ post m) :=
  ⟨ix_tup, fun rs G H x y a b post ep Q w hx hy φ k => by
    obtain ⟨l, vs, rfl, h1, h2, h3⟩ := hx
    obtain ⟨m, e, p⟩ := φ
    obtain ⟨v, e1, r⟩ := h2.at e
    exact ⟨l, vs, b, v, rfl, hy, w.s.st h1, e1, k G H _ _ (Gr.refl w) r p⟩⟩
theorem ix_S : IxW X rpS rpI rpS rIxS (fun z k post _ => z.length ≤ sizeLine ∧ ∃ m, atI z.cps.toList k = some m ∧ post ⟨#[m]⟩) :=
  ⟨ix_str, fun rs G H x y a b post ep Q w hx hy φ k => by
    obtain ⟨hz, m, e, p⟩ := φ
    exact ⟨a, b, m, hx, hy, hz, e, k G H _ _ (Gr.refl w) rfl p⟩⟩
/-- a pair's places -/
theorem ix_2a {α β : Type} {i : Rp α} {j : Rp β} : IxW X (rp2 (i := i) (j := j)) rpI i (rIxT X.K) (fun p k post _ => k = 0 ∧ post p.1) :=
  ⟨ix_tup, fun rs G H x y a b post ep Q w hx hy φ k => by
    obtain ⟨l, u, v, rfl, h1, h2, h3⟩ := hx
    obtain ⟨rfl, p⟩ := φ
    exact ⟨l, [u, v], 0, u, rfl, hy, w.s.st h1, rfl, k G H _ _ (Gr.refl w) h2 p⟩⟩
theorem ix_2b {α β : Type} {i : Rp α} {j : Rp β} : IxW X (rp2 (i := i) (j := j)) rpI j (rIxT X.K) (fun p k post _ => k = 1 ∧ post p.2) :=
  ⟨ix_tup, fun rs G H x y a b post ep Q w hx hy φ k => by
    obtain ⟨l, u, v, rfl, h1, h2, h3⟩ := hx
    obtain ⟨rfl, p⟩ := φ
    exact ⟨l, [u, v], 1, v, rfl, hy, w.s.st h1, rfl, k G H _ _ (Gr.refl w) h3 p⟩⟩
/-- a pair of two alike at an open place -/
theorem ix_2c {α : Type} {i : Rp α} : IxW X (rp2 (i := i) (j := i)) rpI i (rIxT X.K) (fun p k post _ => (k = 0 ∧ post p.1) ∨ (k = 1 ∧ post p.2)) :=
  ⟨ix_tup, fun rs G H x y a b post ep Q w hx hy φ k => by
    obtain ⟨l, u, v, rfl, h1, h2, h3⟩ := hx
    rcases φ with ⟨rfl, p⟩ | ⟨rfl, p⟩
    · exact ⟨l, [u, v], 0, u, rfl, hy, w.s.st h1, rfl, k G H _ _ (Gr.refl w) h2 p⟩
    · exact ⟨l, [u, v], 1, v, rfl, hy, w.s.st h1, rfl, k G H _ _ (Gr.refl w) h3 p⟩⟩

/-! ### built-ins -/
theorem abs_I : CallW X (.builtin "abs") (aCons rpI aNil) rpI rAbs (fun x post _ => post (if x.1 < 0 then -x.1 else x.1)) :=
  ⟨call_abs, fun rs G H vs x post ep Q w ha φ k => by
    obtain ⟨v, rfl, rfl⟩ := one1 ha
    exact ⟨x.1, rfl, k G H _ _ (Gr.refl w) rfl φ⟩⟩
theorem max_I (hc : X.calm = true) : CallW X (.builtin "max") (aCons rpI (aCons rpI aNil)) rpI rMax2 (fun x post _ => post (max x.1 x.2.1)) :=
  ⟨call_max2 hc, fun rs G H vs x post ep Q w ha φ k => by
    obtain ⟨v, u, rfl, rfl, rfl⟩ := two2 ha
    refine ⟨x.1, x.2.1, rfl, k G H _ _ (Gr.refl w) ?_ φ⟩
    show V.int _ = V.int _
    congr 1
    split <;> omega⟩
theorem min_I (hc : X.calm = true) : CallW X (.builtin "min") (aCons rpI (aCons rpI aNil)) rpI rMin2 (fun x post _ => post (min x.1 x.2.1)) :=
  ⟨call_min2 hc, fun rs G H vs x post ep Q w ha φ k => by
    obtain ⟨v, u, rfl, rfl, rfl⟩ := two2 ha
    refine ⟨x.1, x.2.1, rfl, k G H _ _ (Gr.refl w) ?_ φ⟩
    show V.int _ = V.int _
    congr 1
    split <;> omega⟩
theorem int_I : CallW X (.type "int") (aCons rpI aNil) rpI rInt1 (fun x post _ => post x.1) :=
  ⟨call_int1, fun rs G H vs x post ep Q w ha φ k => by
    obtain ⟨v, rfl, rfl⟩ := one1 ha
    exact .inl ⟨x.1, rfl, k G H _ _ (Gr.refl w) rfl φ⟩⟩
theorem int_B : CallW X (.type "int") (aCons rpB aNil) rpI rInt1 (fun x post _ => post (if x.1 then 1 else 0)) :=
  ⟨call_int1, fun rs G H vs x post ep Q w ha φ k => by
    obtain ⟨v, rfl, rfl⟩ := one1 ha
    exact .inr ⟨x.1, rfl, k G H _ _ (Gr.refl w) rfl φ⟩⟩
theorem bool_B : CallW X (.type "bool") (aCons rpB aNil) rpB rBool1 (fun x post _ => post x.1) :=
  ⟨call_bool1, fun rs G H vs x post ep Q w ha φ k => by
    obtain ⟨v, rfl, rfl⟩ := one1 ha
    exact .inr ⟨x.1, rfl, k G H _ _ (Gr.refl w) rfl φ⟩⟩
theorem str_I : CallW X (.type "str") (aCons rpI aNil) rpS rStrI (fun x post _ => x.1.natAbs.log2 < 1920 ∧ post (toString x.1)) :=
  ⟨call_str_int, fun rs G H vs x post ep Q w ha φ k => by
    obtain ⟨v, rfl, rfl⟩ := one1 ha
    exact ⟨x.1, rfl, φ.1, k G H _ _ (Gr.refl w) rfl φ.2⟩⟩
theorem len_L {α : Type} {i : Rp α} : CallW X (.builtin "len") (aCons (rpL (i := i)) aNil) rpI (rLenQ X.K) (fun x post _ => x.1.length ≤ sizeLine → post (x.1.length : Int)) :=
  ⟨call_len_seq, fun rs G H vs x post ep Q w ha φ k => by
    obtain ⟨v, rfl, l, us, rfl, h1, h2, h3⟩ := one1 ha
    have e := h2.length
    refine ⟨l, us, rfl, .inl (SqL.of (w.s _ _ h1)), k G H _ _ (Gr.refl w) (by show V.int _ = V.int _; rw [e]) (φ (by rw [← e]; exact h3))⟩⟩
theorem len_T {α : Type} {i : Rp α} : CallW X (.builtin "len") (aCons (rpT (i := i)) aNil) rpI (rLenQ X.K) (fun x post _ => x.1.l.length ≤ sizeLine → post (x.1.l.length : Int)) :=
  ⟨call_len_seq, fun rs G H vs x post ep Q w ha φ k => by
    obtain ⟨v, rfl, l, us, rfl, h1, h2, h3⟩ := one1 ha
    have e := h2.length
    refine ⟨l, us, rfl, .inr (w.s.st h1), k G H _ _ (Gr.refl w) (by show V.int _ = V.int _; rw [e]) (φ (by rw [← e]; exact h3))⟩⟩
theorem len_S : CallW X (.builtin "len") (aCons rpS aNil) rpI (rLenV X.K) (fun x post _ => x.1.length ≤ sizeLine ∧ post (x.1.length : Int)) :=
  ⟨call_len, fun rs G H vs x post ep Q w ha φ k => by
    obtain ⟨v, rfl, rfl⟩ := one1 ha
    exact ⟨_, x.1.length, rfl, ⟨φ.1, rfl⟩, k G H _ _ (Gr.refl w) rfl φ.2⟩⟩
end

/-! ### truth -/
theorem tru_B : TruW rpB id := fun K G H v m e h => by
  obtain rfl : v = .bl m := h
  rfl
theorem tru_I : TruW rpI (fun n => n != 0) := fun K G H v m e h => by
  obtain rfl : v = .int m := h
  rfl
theorem emp {α : Type} {i : Rp α} {K : Fg} {G : Hp} {vs : List V} {ms : List α} (h : RpAll i K G vs ms) : vs.isEmpty = ms.isEmpty := by cases h <;> rfl
theorem tru_L {α : Type} {i : Rp α} : TruW (rpL (i := i)) (fun xs => !xs.isEmpty) := fun K G H v m e h => by
  obtain ⟨l, us, rfl, h1, h2, h3⟩ := h
  exact .inl ⟨us, SqL.of (e _ _ h1), by rw [emp h2]⟩
theorem tru_T {α : Type} {i : Rp α} : TruW (rpT (i := i)) (fun xs => !xs.l.isEmpty) := fun K G H v m e h => by
  obtain ⟨l, us, rfl, h1, h2, h3⟩ := h
  exact .inr (.inl ⟨us, e.st h1, by rw [emp h2]⟩)

/-! ### expressions -/
section
variable {X : Cx} {c : Cn} {ρ : List Sl} {α β γ : Type} {iα : Rp α} {iβ : Rp β} {iγ : Rp γ} {a b : Expr} {pos : Pos} {Φa : Pt α} {Φb : Pt β} {ta tb td : TE} {r r' : R2}
theorem e_var {i : Rp α} {m : α} (j : Nat) {x : Str} (hρ : ρ[j]? = some (.val i m)) (hN : X.N[j]? = some x := by rfl) (hv : Vis X.env.scope x := by first | exact Or.inl rfl | exact Or.inr (Or.inl rfl) | exact Or.inr (Or.inr rfl))
    (hd : (x == ("__debug__" : Str)) = false := by decide) (hcd : (x == ("__classdict__" : Str)) = false := by decide) : JE X c (.Name x pos) ρ i (tVar j) (fun post _ => post m) :=
  ⟨pe_var hN hv hd hcd, fun post ep φ G H σ w E Q k hx => by
    obtain ⟨v, h1, h2⟩ := E.val hρ
    exact ⟨v, h1, k G H v m (Gr.refl w) h2 φ⟩⟩
theorem e_int {n : Int} {j : Nat} : JE X c (.Constant (.int n) j pos) ρ rpI (tC (.int n)) (fun post _ => post n) := ⟨pe_int, fun post ep φ G H σ w E Q k hx => k G H _ _ (Gr.refl w) rfl φ⟩
theorem e_bool {n : Bool} {j : Nat} : JE X c (.Constant (.bool n) j pos) ρ rpB (tC (.bl n)) (fun post _ => post n) := ⟨pe_bl, fun post ep φ G H σ w E Q k hx => k G H _ _ (Gr.refl w) rfl φ⟩
theorem e_str {n : Str} {j : Nat} : JE X c (.Constant (.str n) j pos) ρ rpS (tC (.str n)) (fun post _ => post n) := ⟨pe_str, fun post ep φ G H σ w E Q k hx => k G H _ _ (Gr.refl w) rfl φ⟩
theorem e_non {j : Nat} : JE X c (.Constant .none j pos) ρ rpN (tC .non) (fun post _ => post ()) := ⟨pe_non, fun post ep φ G H σ w E Q k hx => k G H _ _ (Gr.refl w) rfl φ⟩
/-- a constant of the module -/
theorem e_glob {i : Rp α} {m : α} {x : Str} {v : V} {u : Value} (hm : X.mg x = some u) (rv : RelV v u) (h : ∀ G, i.rp X.K G v m) (hg : Gl X x := by rfl) (hd : (x == ("__debug__" : Str)) = false := by decide) : JE X c (.Name x pos) ρ i (tC v) (fun post _ => post m) :=
  ⟨pe_glob hg hm rv hd, fun post ep φ G H σ w E Q k hx => k G H _ _ (Gr.refl w) (h G) φ⟩
theorem two_sem {Φ : α → β → Pt γ} {R : R2} (ho : ∀ (rs : Rs) (G H : Hp) (x y : V) (a : α) (b : β) (post : γ → Prop) (ep : Exn → Prop) (Q : VK), Wd rs G H → iα.rp X.K G x a → iβ.rp X.K G y b → Φ a b post ep → (∀ G' H' z m, Gr rs G H G' H' → iγ.rp X.K G' z m → post m → Q z H') → R x y H Q)
    (ha : JE X c a ρ iα ta Φa) (hb : JE X c b ρ iβ tb Φb) (post : γ → Prop) (ep : Exn → Prop) (φ : Φa (fun x => Φb (fun y => Φ x y post ep) ep) ep) (G H : Hp) (σ : L2.St) (w : Wd c.rs G H) (E : En X.K c.rs c.H0 G H σ ρ) (Q : VK)
    (k : ∀ G' H' v m, Gr c.rs G H G' H' → iγ.rp X.K G' v m → post m → Q v H') (hx : XOk X c G H σ ep) : ta σ H fun x H1 => tb σ H1 fun y H2 => R x y H2 Q := by
  refine ha.sem _ _ φ G H σ w E _ (fun G1 H1 v1 m1 g1 r1 φ1 => ?_) hx
  refine hb.sem _ _ φ1 G1 H1 σ g1.w (E.up g1) _ (fun G2 H2 v2 m2 g2 r2 φ2 => ?_) (hx.up g1)
  exact ho _ _ _ _ _ _ _ _ _ _ g2.w (Rp.mono g2.g r1) r2 φ2 fun G3 H3 z m g3 r3 p => k G3 H3 z m ((g1.trans g2).trans g3) r3 p
theorem e_op {op : Operator} {Φ : α → β → Pt γ} (ho : OpW X (binaryOp op) iα iβ iγ r Φ) (ha : JE X c a ρ iα ta Φa) (hb : JE X c b ρ iβ tb Φb) : JE X c (.BinOp a op b pos) ρ iγ (tOp r ta tb) (fun post ep => Φa (fun x => Φb (fun y => Φ x y post ep) ep) ep) :=
  ⟨pe_op ho.pe ha.pe hb.pe, fun post ep φ G H σ w E Q k hx => two_sem ho.sem ha hb post ep φ G H σ w E Q k hx⟩
theorem e_un {op : UnaryOp} {r : V → Hp → VK → Prop} {Φ : α → Pt γ} (ho : UnW X (unaryOp op) iα iγ r Φ) (ha : JE X c a ρ iα ta Φa) : JE X c (.UnaryOp op a pos) ρ iγ (tUn r ta) (fun post ep => Φa (fun x => Φ x post ep) ep) := by
  refine ⟨pe_un ho.pe ha.pe, fun post ep φ G H σ w E Q k hx => ?_⟩
  refine ha.sem _ _ φ G H σ w E _ (fun G1 H1 v1 m1 g1 r1 φ1 => ?_) hx
  exact ho.sem _ _ _ _ _ _ _ _ g1.w r1 φ1 fun G3 H3 z m g3 r3 p => k G3 H3 z m (g1.trans g3) r3 p
theorem e_cmp {op : CmpOp} {Φ : α → β → Pt γ} (ho : OpW X (compareOp op) iα iβ iγ r Φ) (ha : JE X c a ρ iα ta Φa) (hb : JE X c b ρ iβ tb Φb) (hm : behindInMarks op b = false) : JE X c (.Compare a [op] [b] pos) ρ iγ (tOp r ta tb) (fun post ep => Φa (fun x => Φb (fun y => Φ x y post ep) ep) ep) :=
  ⟨pe_cmpR ho.pe ha.pe hb.pe hm, fun post ep φ G H σ w E Q k hx => two_sem ho.sem ha hb post ep φ G H σ w E Q k hx⟩
theorem t_cmp {op : CmpOp} {Φ : α → β → Pt Bool} (ho : OpW X (compareOp op) iα iβ rpB r Φ) (ha : JE X c a ρ iα ta Φa) (hb : JE X c b ρ iβ tb Φb) (hm : behindInMarks op b = false) : JT X c (.Compare a [op] [b] pos) ρ (tTest (tOp r ta tb)) (fun post ep => Φa (fun x => Φb (fun y => Φ x y post ep) ep) ep) :=
  ⟨pt_cmpR ho.pe ha.pe hb.pe hm, fun post ep φ G H σ w E Q k hx => two_sem (iγ := rpB) ho.sem ha hb post ep φ G H σ w E _ (fun G3 H3 z m g r3 p => ⟨m, r3, k G3 H3 m g p⟩) hx⟩
section
variable {d : Expr} {δ : Type} {iδ : Rp δ} {Φd : Pt δ} {op op' : CmpOp} {Φ : α → β → Pt Bool} {Φ' : β → δ → Pt Bool}
theorem chain_sem (ho : OpW X (compareOp op) iα iβ rpB r Φ) (ho' : OpW X (compareOp op') iβ iδ rpB r' Φ') (ha : JE X c a ρ iα ta Φa) (hb : JE X c b ρ iβ tb Φb) (hd : JE X c d ρ iδ td Φd)
    (post : Bool → Prop) (ep : Exn → Prop) (φ : Φa (fun x => Φb (fun y => Φ x y (fun k => if k = true then Φd (fun z => Φ' y z post ep) ep else post false) ep) ep) ep) (G H : Hp) (σ : L2.St) (w : Wd c.rs G H) (E : En X.K c.rs c.H0 G H σ ρ) (Q : VK)
    (k : ∀ G' H' v m, Gr c.rs G H G' H' → rpB.rp X.K G' v m → post m → Q v H') (hx : XOk X c G H σ ep) : tChain r r' ta tb td σ H Q := by
  refine ha.sem _ _ φ G H σ w E _ (fun G1 H1 v1 m1 g1 r1 φ1 => ?_) hx
  refine hb.sem _ _ φ1 G1 H1 σ g1.w (E.up g1) _ (fun G2 H2 v2 m2 g2 r2 φ2 => ?_) (hx.up g1)
  refine ho.sem _ _ _ _ _ _ _ _ _ _ g2.w (Rp.mono g2.g r1) r2 φ2 fun G3 H3 z m g3 r3 φ3 => ⟨m, r3, ?_⟩
  have g := (g1.trans g2).trans g3
  cases m with
  | false => exact k G3 H3 _ _ g rfl φ3
  | true =>
    refine hd.sem _ _ φ3 G3 H3 σ g3.w (E.up g) _ (fun G4 H4 v4 m4 g4 r4 φ4 => ?_) (hx.up g)
    exact ho'.sem _ _ _ _ _ _ _ _ _ _ g4.w (Rp.mono (g3.g.trans g4.g) r2) r4 φ4 fun G5 H5 z m g5 r5 p => k G5 H5 z m ((g.trans g4).trans g5) r5 p
theorem e_chain (ho : OpW X (compareOp op) iα iβ rpB r Φ) (ho' : OpW X (compareOp op') iβ iδ rpB r' Φ') (ha : JE X c a ρ iα ta Φa) (hb : JE X c b ρ iβ tb Φb) (hd : JE X c d ρ iδ td Φd) (hm : lastMarks [op, op'] [b, d] = false := by with_unfolding_all rfl) :
    JE X c (.Compare a [op, op'] [b, d] pos) ρ rpB (tChain r r' ta tb td) (fun post ep => Φa (fun x => Φb (fun y => Φ x y (fun k => if k = true then Φd (fun z => Φ' y z post ep) ep else post false) ep) ep) ep) :=
  ⟨pe_chain ho.pe ho'.pe ha.pe hb.pe hd.pe hm, fun post ep φ G H σ w E Q k hx => chain_sem ho ho' ha hb hd post ep φ G H σ w E Q k hx⟩
theorem t_chain (ho : OpW X (compareOp op) iα iβ rpB r Φ) (ho' : OpW X (compareOp op') iβ iδ rpB r' Φ') (ha : JE X c a ρ iα ta Φa) (hb : JE X c b ρ iβ tb Φb) (hd : JE X c d ρ iδ td Φd) (hm : lastMarks [op, op'] [b, d] = false := by with_unfolding_all rfl) :
    JT X c (.Compare a [op, op'] [b, d] pos) ρ (tTest (tChain r r' ta tb td)) (fun post ep => Φa (fun x => Φb (fun y => Φ x y (fun k => if k = true then Φd (fun z => Φ' y z post ep) ep else post false) ep) ep) ep) :=
  ⟨pt_chain ho.pe ho'.pe ha.pe hb.pe hd.pe hm, fun post ep φ G H σ w E Q k hx => chain_sem ho ho' ha hb hd post ep φ G H σ w E _ (fun G' H' v m g r p => ⟨m, r, k G' H' m g p⟩) hx⟩
end
/-! ### tests -/
variable {t1 t2 t3 : TT}
theorem t_val {Φa : Pt Bool} (ha : JE X c a ρ rpB ta Φa) (he : ∀ whole, isTrue a X.env whole = (do let v ← whole; standAt a.pos; holding [v] (truthy v)) := by intro _; rfl) : JT X c a ρ (tB ta) Φa :=
  ⟨pt_val ha.pe he, fun post ep φ G H σ w E Q k hx => ha.sem _ _ φ G H σ w E _ (fun G1 H1 v1 m1 g1 r1 p => ⟨m1, r1, k G1 H1 m1 g1 p⟩) hx⟩
theorem t_tru {f : α → Bool} (hf : TruW iα f) (ha : JE X c a ρ iα ta Φa) (he : ∀ whole, isTrue a X.env whole = (do let v ← whole; standAt a.pos; holding [v] (truthy v)) := by intro _; rfl) :
    JT X c a ρ (fun σ H Q => ta σ H fun x H' => ∃ k, TruV X.K x H' k ∧ Q k H') (fun post ep => Φa (fun x => post (f x)) ep) :=
  ⟨pt_truth ha.pe he, fun post ep φ G H σ w E Q k hx => ha.sem _ _ φ G H σ w E _ (fun G1 H1 v1 m1 g1 r1 p => ⟨f m1, hf X.K G1 H1 v1 m1 g1.w.s r1, k G1 H1 _ g1 p⟩) hx⟩
variable {Φ1 Φ2 : Pt Bool} {rest : List Expr}
theorem t_not (ha : JT X c a ρ t1 Φ1) : JT X c (.UnaryOp .Not a pos) ρ (tNot t1) (fun post ep => Φ1 (fun k => post (!k)) ep) :=
  ⟨pt_not ha.pe, fun post ep φ G H σ w E Q k hx => ha.sem _ _ φ G H σ w E _ (fun G1 H1 m1 g1 p => k G1 H1 _ g1 p) hx⟩
theorem t_pw (h : JW X c a ρ t1 Φ1) : JT X c a ρ t1 Φ1 := ⟨h.pe.pt, h.sem⟩
theorem tw_and1 (ha : JT X c a ρ t1 Φ1) : JW X c (.BoolOp .And [a] pos) ρ t1 Φ1 := ⟨pw_and1 ha.pe, ha.sem⟩
theorem tw_or1 (ha : JT X c a ρ t1 Φ1) : JW X c (.BoolOp .Or [a] pos) ρ t1 Φ1 := ⟨pw_or1 ha.pe, ha.sem⟩
theorem tw_and (ha : JT X c a ρ t1 Φ1) (hb : JW X c (.BoolOp .And (b :: rest) pos) ρ t2 Φ2) : JW X c (.BoolOp .And (a :: b :: rest) pos) ρ (tAnd t1 t2) (fun post ep => Φ1 (fun k => if k = true then Φ2 post ep else post false) ep) := by
  refine ⟨pw_and ha.pe hb.pe, fun post ep φ G H σ w E Q k hx => ha.sem _ _ φ G H σ w E _ (fun G1 H1 m1 g1 p => ?_) hx⟩
  cases m1 with
  | false => exact k G1 H1 _ g1 p
  | true => exact hb.sem _ _ p G1 H1 σ g1.w (E.up g1) _ (fun G2 H2 m2 g2 p => k G2 H2 _ (g1.trans g2) p) (hx.up g1)
theorem tw_or (ha : JT X c a ρ t1 Φ1) (hb : JW X c (.BoolOp .Or (b :: rest) pos) ρ t2 Φ2) : JW X c (.BoolOp .Or (a :: b :: rest) pos) ρ (tOr t1 t2) (fun post ep => Φ1 (fun k => if k = true then post true else Φ2 post ep) ep) := by
  refine ⟨pw_or ha.pe hb.pe, fun post ep φ G H σ w E Q k hx => ha.sem _ _ φ G H σ w E _ (fun G1 H1 m1 g1 p => ?_) hx⟩
  cases m1 with
  | true => exact k G1 H1 _ g1 p
  | false => exact hb.sem _ _ p G1 H1 σ g1.w (E.up g1) _ (fun G2 H2 m2 g2 p => k G2 H2 _ (g1.trans g2) p) (hx.up g1)
/-! ### and, or, not as values (bools) -/
theorem e_one {op : BoolOp} (ha : JE X c a ρ iα ta Φa) : JE X c (.BoolOp op [a] pos) ρ iα ta Φa := ⟨pe_one ha.pe, ha.sem⟩
theorem e_and (ha : JE X c a ρ rpB ta Φ1) (hb : JE X c (.BoolOp .And (b :: rest) pos) ρ rpB tb Φ2) : JE X c (.BoolOp .And (a :: b :: rest) pos) ρ rpB (tAndV ta tb) (fun post ep => Φ1 (fun k => if k = true then Φ2 post ep else post false) ep) := by
  refine ⟨pe_and ha.pe hb.pe, fun post ep φ G H σ w E Q k hx => ha.sem _ _ φ G H σ w E _ (fun G1 H1 v1 m1 g1 r1 p => ⟨m1, r1, ?_⟩) hx⟩
  cases m1 with
  | false => exact k G1 H1 _ _ g1 rfl p
  | true => exact hb.sem _ _ p G1 H1 σ g1.w (E.up g1) _ (fun G2 H2 v2 m2 g2 r2 p => k G2 H2 _ _ (g1.trans g2) r2 p) (hx.up g1)
theorem e_or (ha : JE X c a ρ rpB ta Φ1) (hb : JE X c (.BoolOp .Or (b :: rest) pos) ρ rpB tb Φ2) : JE X c (.BoolOp .Or (a :: b :: rest) pos) ρ rpB (tOrV ta tb) (fun post ep => Φ1 (fun k => if k = true then post true else Φ2 post ep) ep) := by
  refine ⟨pe_or ha.pe hb.pe, fun post ep φ G H σ w E Q k hx => ha.sem _ _ φ G H σ w E _ (fun G1 H1 v1 m1 g1 r1 p => ⟨m1, r1, ?_⟩) hx⟩
  cases m1 with
  | true => exact k G1 H1 _ _ g1 rfl p
  | false => exact hb.sem _ _ p G1 H1 σ g1.w (E.up g1) _ (fun G2 H2 v2 m2 g2 r2 p => k G2 H2 _ _ (g1.trans g2) r2 p) (hx.up g1)
theorem e_not (ha : JE X c a ρ rpB ta Φ1) : JE X c (.UnaryOp .Not a pos) ρ rpB (tNotV ta) (fun post ep => Φ1 (fun k => post (!k)) ep) :=
  ⟨pe_not ha.pe, fun post ep φ G H σ w E Q k hx => ha.sem _ _ φ G H σ w E _ (fun G1 H1 v1 m1 g1 r1 p => ⟨m1, r1, k G1 H1 _ _ g1 rfl p⟩) hx⟩
theorem e_if {t : Expr} {Φt : Pt Bool} {Φa' : Pt α} (ht : JT X c t ρ t1 Φt) (ha : JE X c a ρ iα ta Φa) (hb : JE X c b ρ iα tb Φa') : JE X c (.IfExp t a b pos) ρ iα (tIf t1 ta tb) (fun post ep => Φt (fun k => if k = true then Φa post ep else Φa' post ep) ep) := by
  refine ⟨pe_ifExp ht.pe ha.pe hb.pe, fun post ep φ G H σ w E Q k hx => ht.sem _ _ φ G H σ w E _ (fun G1 H1 m1 g1 p => ?_) hx⟩
  cases m1 with
  | true => exact ha.sem _ _ p G1 H1 σ g1.w (E.up g1) _ (fun G2 H2 v2 m2 g2 r2 p => k G2 H2 _ _ (g1.trans g2) r2 p) (hx.up g1)
  | false => exact hb.sem _ _ p G1 H1 σ g1.w (E.up g1) _ (fun G2 H2 v2 m2 g2 r2 p => k G2 H2 _ _ (g1.trans g2) r2 p) (hx.up g1)
/-! ### arguments, displays, items, calls -/
theorem a_nil : JA X c [] ρ aNil tNil (fun post _ => post ()) := ⟨pa_nil, fun post ep φ G H σ w E Q k hx => k G H [] () (Gr.refl w) .nil φ⟩
theorem a_cons {es : List Expr} {ι : Type} {as : ι → List Sl} {tr : TA} {Φr : Pt ι} (ha : JE X c a ρ iα ta Φa) (hr : JA X c es ρ as tr Φr) (hs : starEach (a :: es) X.env = (false, eval a X.env) :: starEach es X.env := by rfl) :
    JA X c (a :: es) ρ (aCons iα as) (tCons ta tr) (fun post ep => Φa (fun x => Φr (fun y => post (x, y)) ep) ep) := by
  refine ⟨pa_cons ha.pe hr.pe hs, fun post ep φ G H σ w E Q k hx => ha.sem _ _ φ G H σ w E _ (fun G1 H1 v1 m1 g1 r1 p => ?_) hx⟩
  exact hr.sem _ _ p G1 H1 σ g1.w (E.up g1) _ (fun G2 H2 vs x g2 r2 p => k G2 H2 _ (m1, x) (g1.trans g2) (.cons (.val (Rp.mono g2.g r1)) r2) p) (hx.up g1)
/-- the resource's own name -/
theorem a_rf {es : List Expr} {ι : Type} {as : ι → List Sl} {tr : TA} {Φr : Pt ι} {q : Addr} (j : Nat) {x : Str} (hρ : ρ[j]? = some (.rf q)) (hr : JA X c es ρ as tr Φr) (hN : X.N[j]? = some x := by rfl) (hv : Vis X.env.scope x := by first | exact Or.inl rfl | exact Or.inr (Or.inl rfl) | exact Or.inr (Or.inr rfl))
    (hd : (x == ("__debug__" : Str)) = false := by decide) (hcd : (x == ("__classdict__" : Str)) = false := by decide) (hs : starEach (.Name x pos :: es) X.env = (false, eval (.Name x pos) X.env) :: starEach es X.env := by rfl) :
    JA X c (.Name x pos :: es) ρ (aRf q as) (tCons (tVar j) tr) Φr := by
  refine ⟨pa_cons (pe_var hN hv hd hcd) hr.pe hs, fun post ep φ G H σ w E Q k hx => ⟨_, E.ok j _ hρ, ?_⟩⟩
  exact hr.sem _ _ φ G H σ w E _ (fun G2 H2 vs x g2 r2 p => k G2 H2 _ x g2 (.cons .rf r2) p) hx
theorem e_tup2 {e1 e2 : Expr} {k0 : Nat} {t : TA} {Φ : Pt (α × β × Unit)} (h : JA X c [e1, e2] ρ (aCons iα (aCons iβ aNil)) t Φ) : JE X c (.Tuple [e1, e2] k0 pos) ρ (rp2 (i := iα) (j := iβ)) (tTup t) (fun post ep => Φ (fun x => post (x.1, x.2.1)) ep) := by
  refine ⟨pe_tup h.pe, fun post ep φ G H σ w E Q k hx => h.sem _ _ φ G H σ w E _ (fun G1 H1 vs x g1 r1 p => ?_) hx⟩
  obtain ⟨v, u, rfl, h1, h2⟩ := two2 r1
  refine ⟨by show 2 ≤ sizeLine; decide, fun q hq => ?_⟩
  have g := gr_new (o := .tup [v, u]) g1.w hq
  exact k _ _ _ _ (g1.trans g) ⟨q, v, u, rfl, SqT.of upd_same, Rp.mono g.g h1, Rp.mono g.g h2⟩ p
/-- all arguments of one type -/
inductive AllA {α : Type} (i : Rp α) : {ι : Type} → (ι → List Sl) → (ι → List α) → Prop
  | nil : AllA i aNil (fun _ => [])
  | cons {ι : Type} {as : ι → List Sl} {f : ι → List α} : AllA i as f → AllA i (aCons i as) (fun x => x.1 :: f x.2)
theorem AllA.out {α : Type} {i : Rp α} {ι : Type} {as : ι → List Sl} {f : ι → List α} (h : AllA i as f) : ∀ {K : Fg} {G : Hp} {vs : List V} {x : ι}, ArgsOk K G vs (as x) → RpAll i K G vs (f x) := by
  induction h with
  | nil =>
    intro K G vs x r
    cases r
    exact .nil
  | cons _ ih =>
    intro K G vs x r
    cases r with
    | cons r t =>
      cases r with
      | val r => exact .cons r (ih t)
theorem e_list {es : List Expr} {ι : Type} {as : ι → List Sl} {f : ι → List α} {t : TA} {Φ : Pt ι} (h : JA X c es ρ as t Φ) (ha : AllA iα as f) : JE X c (.List es pos) ρ (rpL (i := iα)) (tLst t) (fun post ep => Φ (fun x => (f x).length ≤ sizeLine ∧ post (f x)) ep) := by
  refine ⟨pe_lst h.pe, fun post ep φ G H σ w E Q k hx => h.sem _ _ φ G H σ w E _ (fun G1 H1 vs x g1 r1 p => ?_) hx⟩
  have r := ha.out r1
  have hz : vs.length ≤ sizeLine := by rw [r.length]; exact p.1
  refine ⟨hz, fun q hq => ?_⟩
  have g := gr_new (o := .lst vs) g1.w hq
  exact k _ _ _ _ (g1.trans g) ⟨q, vs, rfl, upd_same, r.mono g.g, hz⟩ p.2
theorem e_ix {Φ : α → β → Pt γ} (ho : IxW X iα iβ iγ r Φ) (ha : JE X c a ρ iα ta Φa) (hb : JE X c b ρ iβ tb Φb) (hs : PlainIxT b := by exact fun _ _ => rfl) : JE X c (.Subscript a b pos) ρ iγ (tOp r ta tb) (fun post ep => Φa (fun x => Φb (fun y => Φ x y post ep) ep) ep) :=
  ⟨pe_ix ho.pe ha.pe hb.pe hs, fun post ep φ G H σ w E Q k hx => two_sem ho.sem ha hb post ep φ G H σ w E Q k hx⟩
section
variable {x : Str} {p : Pos} {e : Expr} {es : List Expr} {ι : Type} {as : ι → List Sl} {Φr : Pt ι} {Φ : ι → Pt γ} {t : TA} {rc : List V → Hp → VK → Prop}
theorem e_cb {id : String} (hc : CallW X (.builtin id) as iγ rc Φ) (hm : X.mg x = none) (ha : JA X c (e :: es) ρ as t Φr) (hv : bootBuiltins x = some (.builtin id) := by decide +kernel) (hg : Gl X x := by rfl) (hn : x ≠ "__name__" := by decide) (hdb : (x == ("__debug__" : Str)) = false := by decide)
    (he : starEach (e :: es) X.env = (false, eval e X.env) :: starEach es X.env := by rfl) (hpl : (backTo pos (starEach es X.env)).any (·.1) = false := by rfl) : JE X c (.Call (.Name x p) (e :: es) [] pos) ρ iγ (tCB rc t) (fun post ep => Φr (fun y => Φ y post ep) ep) := by
  refine ⟨pe_callB hc.pe hg hm hv ha.pe hn hdb he hpl, fun post ep φ G H σ w E Q k hx => ha.sem _ _ φ G H σ w E _ (fun G1 H1 vs y g1 r1 φ1 => ?_) hx⟩
  exact hc.sem _ _ _ _ _ _ _ _ g1.w r1 φ1 fun G3 H3 z m g3 r3 p => k G3 H3 z m (g1.trans g3) r3 p
theorem e_ct {T : String} (hc : CallW X (.type T) as iγ rc Φ) (hm : X.mg x = none) (ha : JA X c (e :: es) ρ as t Φr) (hv : bootBuiltins x = some (.type T) := by decide +kernel) (hg : Gl X x := by rfl) (hn : x ≠ "__name__" := by decide) (hdb : (x == ("__debug__" : Str)) = false := by decide)
    (he : starEach (e :: es) X.env = (false, eval e X.env) :: starEach es X.env := by rfl) (hpl : (backTo pos (starEach es X.env)).any (·.1) = false := by rfl) : JE X c (.Call (.Name x p) (e :: es) [] pos) ρ iγ (tCB rc t) (fun post ep => Φr (fun y => Φ y post ep) ep) := by
  refine ⟨pe_callTy hc.pe hg hm hv ha.pe hn hdb he hpl, fun post ep φ G H σ w E Q k hx => ha.sem _ _ φ G H σ w E _ (fun G1 H1 vs y g1 r1 φ1 => ?_) hx⟩
  exact hc.sem _ _ _ _ _ _ _ _ g1.w r1 φ1 fun G3 H3 z m g3 r3 p => k G3 H3 z m (g1.trans g3) r3 p
end
end

/-! ### what a def promises -/
def spOf (K : Fg) (rs : Rs) {ι β : Type} (as : ι → List Sl) (i : Rp β) (Φ : ι → Pt β) : Sp := fun vs H Q E =>
  ∃ (G : Hp) (x : ι) (post : β → Prop) (ep : Exn → Prop), Wd rs G H ∧ ArgsOk K G vs (as x) ∧ Φ x post ep ∧ (∀ G' H' v m, Gr rs G H G' H' → i.rp K G' v m → post m → Q v H') ∧
    ∀ G' H' cls d e, Gr rs G H G' H' → XRep K G' H' cls d e → ep e → E cls d H'
/-- with a resource that stands at q -/
def spR (K : Fg) (rs : Addr → Rs) {ι β : Type} (as : Addr → ι → List Sl) (i : Rp β) (Φ : ι → Pt β) : Sp := fun vs H Q E => ∃ q, spOf K (rs q) (as q) i Φ vs H Q E
section
variable {X : Cx} {c : Cn} {ρ : List Sl} {β ι : Type} {i : Rp β} {as : ι → List Sl} {Φr : Pt ι} {Φ : ι → Pt β} {k : Nat} {f : Addr} {fd : FuncData} {ps : List Str} {x : Str} {p pos : Pos} {e : Expr} {es : List Expr} {t : TA}
theorem e_callG {sp : Sp} (hsp : ∀ (G H : Hp) (vs : List V) (y : ι) (post : β → Prop) (ep : Exn → Prop) (Q : VK) (E : XK), Wd c.rs G H → ArgsOk X.K G vs (as y) → Φ y post ep → (∀ G' H' v m, Gr c.rs G H G' H' → i.rp X.K G' v m → post m → Q v H') →
      (∀ G' H' cls d e, Gr c.rs G H G' H' → XRep X.K G' H' cls d e → ep e → E cls d H') → sp vs H Q E)
    (F : FnOk X.prog X.w X.K X.mg X.base (L2.CX X.prog X.w) k f fd ps sp) (hr : Room k X.A) (hm : X.mg x = some (.ref f)) (hk : PySem.W.keepIn X.K (.ref f) = true) (hb : Binds X.K fd ps []) (tk : Takes X c.wsh)
    (ha : JA X c (e :: es) ρ as t Φr) (hg : Gl X x := by rfl) (hdb : (x == ("__debug__" : Str)) = false := by decide) (he : starEach (e :: es) X.env = (false, eval e X.env) :: starEach es X.env := by rfl) (hpl : (backTo pos (starEach es X.env)).any (·.1) = false := by rfl) :
    JE X c (.Call (.Name x p) (e :: es) [] pos) ρ i (tCallS sp (fun σ => L2.WE c.wsh σ) t) (fun post ep => Φr (fun y => Φ y post ep) ep) := by
  refine ⟨pe_callS F hr hg hm hk hb (fun σ => passAt tk σ) ha.pe hdb he hpl, fun post ep φ G H σ w E Q k hx => ha.sem _ _ φ G H σ w E _ (fun G1 H1 vs y g1 r1 φ1 => ?_) hx⟩
  exact hsp G1 H1 vs y post ep _ _ g1.w r1 φ1 (fun G3 H3 z m g3 r3 p => k G3 H3 z m (g1.trans g3) r3 p) fun G3 H3 cls d e g3 r3 p => (hx.up g1) G3 H3 cls d e g3 r3 p
/-- a def that touches no resource -/
theorem e_call (F : FnOk X.prog X.w X.K X.mg X.base (L2.CX X.prog X.w) k f fd ps (spOf X.K rs0 as i Φ)) (hr : Room k X.A) (hm : X.mg x = some (.ref f)) (hk : PySem.W.keepIn X.K (.ref f) = true) (hb : Binds X.K fd ps []) (tk : Takes X c.wsh)
    (ha : JA X c (e :: es) ρ as t Φr) (hg : Gl X x := by rfl) (hdb : (x == ("__debug__" : Str)) = false := by decide) (he : starEach (e :: es) X.env = (false, eval e X.env) :: starEach es X.env := by rfl) (hpl : (backTo pos (starEach es X.env)).any (·.1) = false := by rfl) :
    JE X c (.Call (.Name x p) (e :: es) [] pos) ρ i (tCallS (spOf X.K rs0 as i Φ) (fun σ => L2.WE c.wsh σ) t) (fun post ep => Φr (fun y => Φ y post ep) ep) :=
  e_callG (fun G H vs y post ep Q E w a φ hq he => ⟨G, y, post, ep, w.to0, a, φ, fun G' H' v m g r p => hq G' H' v m (g.lift w) r p, fun G' H' cls d e g r p => he G' H' cls d e (g.lift w) r p⟩) F hr hm hk hb tk ha hg hdb he hpl
/-- a def that turns the resource at q -/
theorem e_callR {rs : Addr → Rs} {as : Addr → ι → List Sl} {q : Addr} (hc : c.rs = rs q) (F : FnOk X.prog X.w X.K X.mg X.base (L2.CX X.prog X.w) k f fd ps (spR X.K rs as i Φ)) (hr : Room k X.A) (hm : X.mg x = some (.ref f)) (hk : PySem.W.keepIn X.K (.ref f) = true) (hb : Binds X.K fd ps []) (tk : Takes X c.wsh)
    (ha : JA X c (e :: es) ρ (as q) t Φr) (hg : Gl X x := by rfl) (hdb : (x == ("__debug__" : Str)) = false := by decide) (he : starEach (e :: es) X.env = (false, eval e X.env) :: starEach es X.env := by rfl) (hpl : (backTo pos (starEach es X.env)).any (·.1) = false := by rfl) :
    JE X c (.Call (.Name x p) (e :: es) [] pos) ρ i (tCallS (spR X.K rs as i Φ) (fun σ => L2.WE c.wsh σ) t) (fun post ep => Φr (fun y => Φ y post ep) ep) :=
  e_callG (fun G H vs y post ep Q E w a φ hq he => ⟨q, G, y, post, ep, hc ▸ w, a, φ, fun G' H' v m g r p => hq G' H' v m (hc ▸ g) r p, fun G' H' cls d e g r p => he G' H' cls d e (hc ▸ g) r p⟩) F hr hm hk hb tk ha hg hdb he hpl
end
end Ty

set_option Elab.async false
set_option linter.all false
set_option maxRecDepth 100000
set_option maxHeartbeats 4000000
set_option autoImplicit false
/-! Ty, part C: statements, loops, comprehensions, defs -/
namespace Ty
open PySem PySem.Spec L2

/-! ### targets -/
structure JG (X : Cx) (tg : Expr) {α : Type} (i : Rp α) (g : TG) (js : List Nat) (f : α → List Sl → List Sl) : Prop where
  pe : PG X tg g
  sem : ∀ (rs : Rs) (H0 G H : Hp) (σ : L2.St) (ρ : List Sl) (v : V) (m : α), Wd rs G H → En X.K rs H0 G H σ ρ → i.rp X.K G v m → ∀ Q : L2.St → Hp → Prop,
    (∀ σ', En X.K rs H0 G H σ' (f m ρ) → (∀ vs : List Nat, (∀ j ∈ js, j ∈ vs) → wipe σ' vs = wipe σ vs) → Q σ' H) → g v σ H Q
theorem wipe_set {σ : L2.St} {j : Nat} {v : Option V} : ∀ {vs : List Nat}, j ∈ vs → wipe (σ.set j v) vs = wipe σ vs
  | [], h => by cases h
  | a :: vs, h => by
    unfold wipe
    by_cases e : j ∈ vs
    · rw [wipe_set e]
    · have ea : j = a := by
        rcases List.mem_cons.mp h with h | h
        · exact h
        · exact absurd h e
      subst ea
      have : ∀ (us : List Nat) (τ : L2.St), j ∉ us → wipe (τ.set j v) us = (wipe τ us).set j v := by
        intro us
        induction us with
        | nil => intro τ _; rfl
        | cons b us ih =>
          intro τ hb
          have h1 : j ≠ b := fun q => hb (q ▸ List.mem_cons_self)
          have h2 : j ∉ us := fun q => hb (List.mem_cons_of_mem _ q)
          show (wipe (τ.set j v) us).set b none = ((wipe τ us).set b none).set j v
          rw [ih τ h2, List.set_comm _ _ h1]
      rw [this vs σ e, List.set_set]
section
variable {X : Cx} {pos : Pos}
theorem g_name {α : Type} {i : Rp α} (j : Nat) {x : Str} (hN : X.N.Nodup) (hj : X.N[j]? = some x := by rfl) (hx : Loc X.env.scope x := by first | exact Or.inl rfl | exact Or.inr rfl) (hf : X.fn x = true ∨ X.env.scope.names.lookup x = some .local := by first | exact .inl rfl | exact .inr rfl) :
    JG X (.Name x pos) i (gName j) [j] (fun m ρ => ρ.set j (.val i m)) :=
  ⟨pg_name hN hj hx hf, fun rs H0 G H σ ρ v m w E r Q k => k _ (E.set (x := .val i m) ⟨v, rfl, r⟩ rfl) fun vs h => wipe_set (h j (List.mem_singleton.mpr rfl))⟩
theorem g_tup2 {α β : Type} {i : Rp α} {j : Rp β} {e1 e2 : Expr} {g1 g2 : TG} {j1 j2 : List Nat} {f1 : α → List Sl → List Sl} {f2 : β → List Sl → List Sl} {k0 : Nat} (hc : X.calm = true) (h1 : JG X e1 i g1 j1 f1) (h2 : JG X e2 j g2 j2 f2)
    (hs1 : (assignEach [e1, e2] X.env).map (·.2) = assign e1 X.env :: (assignEach [e2] X.env).map (·.2) := by rfl) (hs2 : (assignEach [e2] X.env).map (·.2) = assign e2 X.env :: (assignEach [] X.env).map (·.2) := by rfl)
    (hn : (assignEach [e1, e2] X.env).length = 2 := by rfl) (hst : (assignEach [e1, e2] X.env).findIdx? (·.1) = none := by rfl) :
    JG X (.Tuple [e1, e2] k0 pos) (rp2 (i := i) (j := j)) (gTup X.K 2 (gCons g1 (gCons g2 gNil))) (j1 ++ j2) (fun m ρ => f2 m.2 (f1 m.1 ρ)) := by
  refine ⟨pg_tup hc (pgs_cons h1.pe (pgs_cons h2.pe pgs_nil hs2) hs1) hn hst, fun rs H0 G H σ ρ v m w E r Q k => ?_⟩
  obtain ⟨a, x, y, rfl, h3, h4, h5⟩ := r
  refine ⟨a, [x, y], rfl, w.s.st h3, rfl, x, [y], rfl, h1.sem rs H0 G H σ ρ x m.1 w E h4 _ fun σ1 E1 w1 => ⟨y, [], rfl, h2.sem rs H0 G H σ1 _ y m.2 w E1 h5 _ fun σ2 E2 w2 => ⟨rfl, k σ2 E2 fun vs h => ?_⟩⟩⟩
  rw [w2 vs fun j hj => h j (List.mem_append_right _ hj), w1 vs fun j hj => h j (List.mem_append_left _ hj)]
end

/-! ### walks -/
structure WalkG (K : Fg) {α : Type} (i : Rp α) (J : It) (st : Hp → Prop) (xs : List α) : Prop where
  mono : ∀ G G', Ex G G' → st G → st G'
  go : ∃ (Gd : Hp → Prop) (Y : Nat → Hp → V → Hp → Prop), Walk J xs.length Gd Y ∧ (∀ G H, Ex G H → st G → Gd H) ∧
    ∀ (rs : Rs) (j : Nat) (m : α) (G H : Hp) (x : V) (H' : Hp), Wd rs G H → st G → xs[j]? = some m → Y j H x H' → ∃ G', Gr rs G H G' H' ∧ i.rp K G' x m
structure JI (X : Cx) (c : Cn) (tg iter : Expr) (ρ : List Sl) {α : Type} (i : Rp α) (wi : TI) (Φ : Pt (List α)) : Prop where
  pe : PI X tg iter wi
  sem : ∀ post ep, Φ post ep → ∀ G H σ, Wd c.rs G H → En X.K c.rs c.H0 G H σ ρ → ∀ R : It → Hp → Prop, (∀ G' H' J xs st, Gr c.rs G H G' H' → WalkG X.K i J st xs → st G' → post xs → R J H') → XOk X c G H σ ep → wi σ H R
def rangeI (lo : Int) (n : Nat) : List Int := (List.range n).map fun (k : Nat) => lo + (k : Int)
theorem walkG_list {K : Fg} {α : Type} {i : Rp α} {a : Addr} {vs : List V} {xs : List α} (hl : vs.length = xs.length) : WalkG K i (Itl K a) (fun G => G a = some (.lst vs) ∧ RpAll i K G vs xs) xs := by
  refine ⟨fun G G' e h => ⟨e _ _ h.1, h.2.mono e⟩, _, _, hl ▸ walk_list (K := K) (a := a) (xs := vs), fun G H e h => SqL.of (e _ _ h.1), fun rs j m G H x H' w h e y => ?_⟩
  obtain ⟨rfl, hx⟩ := y
  obtain ⟨v, h1, h2⟩ := h.2.get e
  rw [hx] at h1
  cases h1
  exact ⟨G, Gr.refl w, h2⟩
theorem walkG_tup {K : Fg} {α : Type} {i : Rp α} {a : Addr} {vs : List V} {xs : List α} (hl : vs.length = xs.length) : WalkG K i (Itt K a) (fun G => SqT K G a vs ∧ RpAll i K G vs xs) xs := by
  refine ⟨fun G G' e h => ⟨e.st h.1, h.2.mono e⟩, _, _, hl ▸ walk_tup (K := K) (a := a) (xs := vs), fun G H e h => e.st h.1, fun rs j m G H x H' w h e y => ?_⟩
  obtain ⟨rfl, hx⟩ := y
  obtain ⟨v, h1, h2⟩ := h.2.get e
  rw [hx] at h1
  cases h1
  exact ⟨G, Gr.refl w, h2⟩
theorem walkG_range {K : Fg} {lo : Int} {n : Nat} : WalkG K rpI (Itr lo n) (fun _ => True) (rangeI lo n) := by
  have hl : (rangeI lo n).length = n := by simp [rangeI]
  have hw : Walk (Itr lo n) (rangeI lo n).length (fun _ => True) (YFn fun i => .int (lo + i)) := by
    rw [hl]
    exact walk_range
  refine ⟨fun _ _ _ h => h, _, _, hw, fun _ _ _ _ => trivial, fun rs j m G H x H' w h e y => ?_⟩
  obtain ⟨rfl, hx⟩ := y
  refine ⟨G, Gr.refl w, ?_⟩
  have q : j < n := by
    have := (List.getElem?_eq_some_iff.mp e).1
    rw [hl] at this
    exact this
  unfold rangeI at e
  rw [List.getElem?_map, List.getElem?_range q] at e
  cases e
  exact hx
section
variable {X : Cx} {c : Cn} {ρ : List Sl} {α : Type} {i : Rp α} {tg e : Expr} {Φ : Pt (List α)} {te : TE} {t : TA}
theorem i_list (he : JE X c e ρ (rpL (i := i)) te Φ) (hs : PI X tg e (iList X.K te)) : JI X c tg e ρ i (iList X.K te) (fun post ep => Φ (fun xs => xs.length ≤ sizeLine → post xs) ep) := by
  refine ⟨hs, fun post ep φ G H σ w E R k hx => he.sem _ _ φ G H σ w E _ (fun G1 H1 v m g r p => ?_) hx⟩
  obtain ⟨a, vs, rfl, h1, h2, h3⟩ := r
  exact ⟨a, rfl, ⟨vs, SqL.of (g.w.s _ _ h1)⟩, k G1 H1 _ m _ g (walkG_list h2.length) ⟨h1, h2⟩ (p (h2.length ▸ h3))⟩
theorem i_tup {Φ : Pt (Tu α)} (he : JE X c e ρ (rpT (i := i)) te Φ) (hs : PI X tg e (iTup X.K te)) : JI X c tg e ρ i (iTup X.K te) (fun post ep => Φ (fun xs => xs.l.length ≤ sizeLine → post xs.l) ep) := by
  refine ⟨hs, fun post ep φ G H σ w E R k hx => he.sem _ _ φ G H σ w E _ (fun G1 H1 v m g r p => ?_) hx⟩
  obtain ⟨a, vs, rfl, h1, h2, h3⟩ := r
  exact ⟨a, rfl, ⟨vs, g.w.s.st h1⟩, k G1 H1 _ m.l _ g (walkG_tup h2.length) ⟨h1, h2⟩ (p (h2.length ▸ h3))⟩
theorem i_range1 {es : List Expr} {x : Str} {p pos : Pos} {Φ : Pt (Int × Unit)} (ha : JA X c es ρ (aCons rpI aNil) t Φ) (hs : PI X tg e (iRng1 t)) : JI X c tg e ρ rpI (iRng1 t) (fun post ep => Φ (fun n => (-(2 ^ 62) ≤ n.1 ∧ n.1 < 2 ^ 62) ∧ post (rangeI 0 n.1.toNat)) ep) := by
  refine ⟨hs, fun post ep φ G H σ w E R k hx => ha.sem _ _ φ G H σ w E _ (fun G1 H1 vs m g r p => ?_) hx⟩
  obtain ⟨v, rfl, rfl⟩ := one1 r
  exact ⟨m.1, rfl, p.1.1, p.1.2, k G1 H1 _ _ _ g walkG_range trivial p.2⟩
theorem i_range2 {es : List Expr} {x : Str} {p pos : Pos} {Φ : Pt (Int × Int × Unit)} (ha : JA X c es ρ (aCons rpI (aCons rpI aNil)) t Φ) (hs : PI X tg e (iRng2 t)) :
    JI X c tg e ρ rpI (iRng2 t) (fun post ep => Φ (fun n => (-(2 ^ 62) ≤ n.1 ∧ n.1 < 2 ^ 62 ∧ -(2 ^ 62) ≤ n.2.1 ∧ n.2.1 < 2 ^ 62) ∧ post (rangeI n.1 (n.2.1 - n.1).toNat)) ep) := by
  refine ⟨hs, fun post ep φ G H σ w E R k hx => ha.sem _ _ φ G H σ w E _ (fun G1 H1 vs m g r p => ?_) hx⟩
  obtain ⟨v, u, rfl, rfl, rfl⟩ := two2 r
  exact ⟨m.1, m.2.1, rfl, p.1, k G1 H1 _ _ _ g walkG_range trivial p.2⟩
end

/-! ### blocks -/
def seqP {S1 S L β : Type} (Φr : S1 → Pt (Out S L β)) (post : Out S L β → Prop) (ep : Exn → Prop) : Out S1 L β → Prop
  | .nx s => Φr s post ep
  | .rt b => post (.rt b)
  | .bk l => post (.bk l)
  | .ct l => post (.ct l)
def forP {α S β : Type} (Φb : α → S → Pt (Out S S β)) (fin : S → Prop) (rt : β → Prop) (ep : Exn → Prop) : List α → S → Prop
  | [], s => fin s
  | x :: r, s => Φb x s (fun
    | .nx s' => forP Φb fin rt ep r s'
    | .ct s' => forP Φb fin rt ep r s'
    | .bk s' => fin s'
    | .rt b => rt b) ep
section
variable {X : Cx} {c : Cn} {ρ : List Sl} {S L β α : Type} {out : S → List Sl} {lp : L → List Sl} {i : Rp β} {iα : Rp α} {pos : Pos} {rest : List Stmt} {tr : TS} {e : Expr} {te : TE} {Φe : Pt α}
theorem b_nil (s : S) (h : EnLe ρ (out s)) : JB X c [] ρ out lp i tNext (fun post _ => post (.nx s)) :=
  ⟨pss_nil, fun post ep φ G H σ g E D k hx => k.nx G H σ s g (Ex.refl _) (E.le h) φ⟩
theorem b_set [Nonempty α] (j : Nat) {x : Str} {px : Pos} {Φr : α → Pt (Out S L β)} (hN : X.N.Nodup) (he : JE X c e ρ iα te Φe) (hr : ∀ m, JB X c rest (ρ.set j (.val iα m)) out lp i tr (Φr m)) (hj : X.N[j]? = some x := by rfl) (hx : Loc X.env.scope x := by first | exact Or.inl rfl | exact Or.inr rfl)
    (hs : swapsWith e (some (.Name x px)) pos.line X.env = pure false := by rfl) (hf : X.fn x = true ∨ X.env.scope.names.lookup x = some .local := by first | exact .inl rfl | exact .inr rfl) :
    JB X c (.Assign [.Name x px] e pos :: rest) ρ out lp i (tSeq (tAsg te (gName j)) tr) (fun post ep => Φe (fun m => Φr m post ep) ep) := by
  refine ⟨pss_cons (ps_set hN hj hx he.pe hs hf) (hr (Classical.choice inferInstance)).pe, fun post ep φ G H σ g E D k hx => ?_⟩
  refine he.sem _ _ φ G H σ g.w E _ (fun G1 H1 v m g1 r p => ?_) (hx.at g)
  exact (hr m).sem _ _ p G1 H1 _ (g.trans g1) ((E.up g1).set (x := .val iα m) ⟨v, rfl, r⟩ rfl) D (k.up g1.g) hx
/-- .. of any target -/
theorem b_asg [Nonempty α] {tg : Expr} {gt : TG} {js : List Nat} {f : α → List Sl → List Sl} {Φr : α → Pt (Out S L β)} (he : JE X c e ρ iα te Φe) (hg : JG X tg iα gt js f) (hr : ∀ m, JB X c rest (f m ρ) out lp i tr (Φr m)) (hs : swapsWithSole [tg] e pos.line X.env = pure false := by rfl) (hw : swappedStores [tg] e X.env = pure none := by rfl)
    (h1 : (assignEach [tg] X.env).map (·.2) = [assign tg X.env] := by rfl) : JB X c (.Assign [tg] e pos :: rest) ρ out lp i (tSeq (tAsg te gt) tr) (fun post ep => Φe (fun m => Φr m post ep) ep) := by
  refine ⟨pss_cons (ps_asg he.pe hg.pe hs hw h1) (hr (Classical.choice inferInstance)).pe, fun post ep φ G H σ g E D k hx => ?_⟩
  refine he.sem _ _ φ G H σ g.w E _ (fun G1 H1 v m g1 r p => ?_) (hx.at g)
  exact hg.sem c.rs c.H0 G1 H1 σ ρ v m g1.w (E.up g1) r _ fun σ' E' _ => (hr m).sem _ _ p G1 H1 σ' (g.trans g1) E' D (k.up g1.g) hx
theorem b_ret {Φe : Pt β} (he : JE X c e ρ i te Φe) : JB X c (.Return (some e) pos :: rest) ρ out lp i (tSeq (tRet te) tNever) (fun post ep => Φe (fun m => post (.rt m)) ep) := by
  refine ⟨pss_cons (ps_ret he.pe) pss_never, fun post ep φ G H σ g E D k hx => ?_⟩
  exact he.sem _ _ φ G H σ g.w E _ (fun G1 H1 v m g1 r p => k.rt G1 H1 v m (g.trans g1) g1.g r p) (hx.at g)
theorem b_expr {Φr : Pt (Out S L β)} (he : JE X c e ρ iα te Φe) (hr : JB X c rest ρ out lp i tr Φr) (hs : swapsWith e none pos.line X.env = pure false := by rfl) : JB X c (.Expr e pos :: rest) ρ out lp i (tSeq (tDrop te) tr) (fun post ep => Φe (fun _ => Φr post ep) ep) := by
  refine ⟨pss_cons (ps_expr he.pe hs) hr.pe, fun post ep φ G H σ g E D k hx => ?_⟩
  exact he.sem _ _ φ G H σ g.w E _ (fun G1 H1 v m g1 r p => hr.sem _ _ p G1 H1 σ (g.trans g1) (E.up g1) D (k.up g1.g) hx) (hx.at g)
theorem b_pass {Φr : Pt (Out S L β)} (hr : JB X c rest ρ out lp i tr Φr) : JB X c (.Pass pos :: rest) ρ out lp i (tSeq tNext tr) Φr :=
  ⟨pss_cons ps_pass hr.pe, fun post ep φ G H σ g E D k hx => hr.sem _ _ φ G H σ g E D k hx⟩
theorem b_brk (l : L) (h : EnLe ρ (lp l)) : JB X c (.Break pos :: rest) ρ out lp i (tSeq tBreak tNever) (fun post _ => post (.bk l)) :=
  ⟨pss_cons ps_break pss_never, fun post ep φ G H σ g E D k hx => k.bk G H σ l g (Ex.refl _) (E.le h) φ⟩
theorem b_cont (l : L) (h : EnLe ρ (lp l)) : JB X c (.Continue pos :: rest) ρ out lp i (tSeq tCont tNever) (fun post _ => post (.ct l)) :=
  ⟨pss_cons ps_continue pss_never, fun post ep φ G H σ g E D k hx => k.ct G H σ l g (Ex.refl _) (E.le h) φ⟩
theorem b_never : JB X c rest ρ out lp i tNever (fun _ _ => False) := ⟨pss_never, fun post ep φ G H σ g E D k hx => φ⟩
theorem b_if [Nonempty α] {t : Expr} {b1 b2 : List Stmt} {tt : TT} {t1 t2 : TS} {Φt : Pt Bool} {Φ1 Φ2 : Pt (Out α L β)} {Φr : α → Pt (Out S L β)} {mid : α → List Sl} (ht : JT X c t ρ tt Φt) (h1 : JB X c b1 ρ mid lp i t1 Φ1) (h2 : JB X c b2 ρ mid lp i t2 Φ2) (hr : ∀ s, JB X c rest (mid s) out lp i tr (Φr s)) :
    JB X c (.If t b1 b2 pos :: rest) ρ out lp i (tSeq (tIfS tt t1 t2) tr) (fun post ep => Φt (fun k => if k = true then Φ1 (seqP Φr post ep) ep else Φ2 (seqP Φr post ep) ep) ep) := by
  refine ⟨pss_cons (ps_if ht.pe h1.pe h2.pe) (hr (Classical.choice inferInstance)).pe, fun post ep φ G H σ g E D k hx => ?_⟩
  refine ht.sem _ _ φ G H σ g.w E _ (fun G1 H1 m g1 p => ?_) (hx.at g)
  have k := k.up g1.g
  have ends : EndsOk X c G1 i mid lp (seqP Φr post ep) { D with nx := tr D } :=
    ⟨fun G' H' σ' s g' x' E' p' => (hr s).sem _ _ p' G' H' σ' g' E' D (k.up x') hx, fun G' H' v b g' x' r p' => k.rt G' H' v b g' x' r p', fun G' H' σ' l g' x' E' p' => k.bk G' H' σ' l g' x' E' p', fun G' H' σ' l g' x' E' p' => k.ct G' H' σ' l g' x' E' p'⟩
  cases m with
  | true => exact h1.sem _ _ p G1 H1 σ (g.trans g1) (E.up g1) _ ends hx
  | false => exact h2.sem _ _ p G1 H1 σ (g.trans g1) (E.up g1) _ ends hx
/-- an if that is the last statement of its block -/
theorem b_ifE {t : Expr} {b1 b2 : List Stmt} {tt : TT} {t1 t2 : TS} {Φt : Pt Bool} {Φ1 Φ2 : Pt (Out S L β)} (ht : JT X c t ρ tt Φt) (h1 : JB X c b1 ρ out lp i t1 Φ1) (h2 : JB X c b2 ρ out lp i t2 Φ2) :
    JB X c [.If t b1 b2 pos] ρ out lp i (tIfS tt t1 t2) (fun post ep => Φt (fun k => if k = true then Φ1 post ep else Φ2 post ep) ep) := by
  refine ⟨pss_one (ps_if ht.pe h1.pe h2.pe), fun post ep φ G H σ g E D k hx => ?_⟩
  refine ht.sem _ _ φ G H σ g.w E _ (fun G1 H1 m g1 p => ?_) (hx.at g)
  cases m with
  | true => exact h1.sem _ _ p G1 H1 σ (g.trans g1) (E.up g1) _ (k.up g1.g) hx
  | false => exact h2.sem _ _ p G1 H1 σ (g.trans g1) (E.up g1) _ (k.up g1.g) hx
theorem b_for [Nonempty α] {T : Type} {tg iter : Expr} {wi : TI} {gt : TG} {js : List Nat} {f : α → List Sl → List Sl} {body : List Stmt} {tb : TS} {Φi : Pt (List α)} {Φb : α → T → Pt (Out T T β)} {Φr : T → Pt (Out S L β)} {lpS : T → List Sl}
    (s0 : T) (h0 : EnLe ρ (lpS s0)) (hp : PassesOwn (model X.prog X.w) X.A X.env X.xe) (hc : X.calm = true) (hi : JI X c tg iter ρ iα wi Φi) (hg : JG X tg iα gt js f) (hb : ∀ m s, JB X c body (f m (lpS s)) lpS lpS i tb (Φb m s)) (hr : ∀ s, JB X c rest (lpS s) out lp i tr (Φr s))
    (hfs : ∀ x : Value, foldedSetIterable iter X.env x = pure x := by intro _; rfl) :
    JB X c (.For tg iter body [] pos :: rest) ρ out lp i (tSeq (tFor wi gt tb) tr) (fun post ep => Φi (fun xs => forP Φb (fun s => Φr s post ep) (fun b => post (.rt b)) ep xs s0) ep) := by
  refine ⟨pss_cons (ps_for hp hc hi.pe hg.pe (hb (Classical.choice inferInstance) s0).pe hfs) (hr s0).pe, fun post ep φ G H σ g E D k hx => ?_⟩
  refine hi.sem _ _ φ G H σ g.w E _ (fun G1 H1 J xs st g1 wg hst p => ?_) (hx.at g)
  obtain ⟨Gd, Y, wk, hGd, hY⟩ := wg.go
  have k := k.up g1.g
  refine for_it wk (fun n σ' H' => ∃ (G' : Hp) (s : T), Gr c.rs c.G0 c.H0 G' H' ∧ En X.K c.rs c.H0 G' H' σ' (lpS s) ∧ Ex G1 G' ∧ forP Φb (fun s => Φr s post ep) (fun b => post (.rt b)) ep (xs.drop n) s) ⟨G1, s0, g.trans g1, (E.up g1).le h0, Ex.refl _, p⟩ ?_ ?_ ?_
  · rintro n σ' H' _ ⟨G', s, g', E', x', _⟩
    exact hGd G' H' g'.w.s (wg.mono _ _ x' hst)
  · rintro n x σ' H' H'' hn ⟨G', s, g', E', x', p'⟩ y
    have em : xs[n]? = some xs[n] := List.getElem?_eq_getElem hn
    obtain ⟨G2, g2, r2⟩ := hY c.rs n _ G' H' x H'' g'.w (wg.mono _ _ x' hst) em y
    rw [List.drop_eq_getElem_cons hn] at p'
    have x2 := x'.trans g2.g
    refine hg.sem c.rs c.H0 G2 H'' σ' (lpS s) x _ g2.w (E'.up g2) r2 _ fun σ3 E3 _ => (hb xs[n] s).sem _ _ p' G2 H'' σ3 (g'.trans g2) E3 _ ⟨?_, ?_, ?_, ?_⟩ hx
    · exact fun G4 H4 σ4 s4 g4 x4 E4 p4 => ⟨G4, s4, g4, E4, x2.trans x4, p4⟩
    · exact fun G4 H4 v b g4 x4 r p4 => k.rt G4 H4 v b g4 (x2.trans x4) r p4
    · exact fun G4 H4 σ4 s4 g4 x4 E4 p4 => (hr s4).sem _ _ p4 G4 H4 σ4 g4 E4 D (k.up (x2.trans x4)) hx
    · exact fun G4 H4 σ4 s4 g4 x4 E4 p4 => ⟨G4, s4, g4, E4, x2.trans x4, p4⟩
  · rintro σ' H' ⟨G', s, g', E', x', p'⟩
    rw [List.drop_length] at p'
    exact (hr s).sem _ _ p' G' H' σ' g' E' D (k.up x') hx
end
end Ty

set_option Elab.async false
set_option linter.all false
set_option maxRecDepth 100000
set_option maxHeartbeats 4000000
set_option autoImplicit false
/-! Ty, part D: comprehensions, own lists, defs, instances -/
namespace Ty
open PySem PySem.Spec L2

/-- an own object is known for good from now on -/
theorem gr_frz {rs : Rs} {G0 H0 G H : Hp} {l : Addr} {o : HO} (g : Gr rs G0 H0 G H) (h0 : H0 l = none) (hg : G l = none) (hs : ¬ rs.S H l) (hl : H l = some o) : Gr rs G0 H0 (upd G l o) H := by
  refine ⟨g.g.trans (Ex.new hg), g.h, g.t, fun a ha q => ?_, g.f, ⟨fun a u q => ?_, g.w.i, fun a ha => ?_⟩⟩
  · rw [upd_ne fun (z : a = l) => ha (by rw [z]; exact h0)]
    exact g.n a ha q
  · by_cases z : a = l
    · subst z
      rw [upd_same] at q
      rw [← q]
      exact hl
    · rw [upd_ne z] at q
      exact g.w.s a u q
  · rw [upd_ne fun (z : a = l) => hs (by rw [← z]; exact ha)]
    exact g.w.n a ha
theorem not_new {rs : Rs} {G H : Hp} {p : Addr} {o : HO} (w : Wd rs G H) (hp : H p = none) : ¬ rs.S (upd H p o) p := fun z => by
  have e : ∀ a, rs.S H a → upd H p o a = H a := fun a ha => upd_ne fun q => rs.trk w.i ha (q ▸ hp)
  exact rs.trk w.i (((rs.loc w.i e).2 p).mp z) hp

/-! ### comprehensions -/
def lcP {α β : Type} (Φt : α → Pt Bool) (Φe : α → Pt β) (post : List β → Prop) : List α → List β → Prop
  | [], acc => post acc
  | x :: r, acc => Φt x (fun k => if k = true then Φe x (fun y => lcP Φt Φe post r (acc ++ [y])) (fun _ => False) else lcP Φt Φe post r acc) (fun _ => False)
def wipeS (ρ : List Sl) : List Nat → List Sl
  | [] => ρ
  | v :: vs => (wipeS ρ vs).set v .no
theorem En.unset {K : Fg} {rs : Rs} {H0 G H : Hp} {σ : L2.St} {ρ : List Sl} {j : Nat} (h : En K rs H0 G H σ ρ) : En K rs H0 G H (σ.set j none) (ρ.set j .no) := by
  refine ⟨by simp [h.len], fun i y e => ?_, fun i k y z l ne e1 e2 o1 o2 s1 s2 => ?_⟩
  · rcases get_set e with ⟨rfl, rfl, z⟩ | ⟨q, e⟩
    · trivial
    · rw [List.getElem?_set_ne q]
      exact h.ok i y e
  · rcases get_set e1 with ⟨_, rfl, _⟩ | ⟨q1, e1⟩
    · cases o1
    rcases get_set e2 with ⟨_, rfl, _⟩ | ⟨q2, e2⟩
    · cases o2
    rw [List.getElem?_set_ne q1] at s1
    rw [List.getElem?_set_ne q2] at s2
    exact h.sep i k y z l ne e1 e2 o1 o2 s1 s2
theorem En.wipe {K : Fg} {rs : Rs} {H0 G H : Hp} {σ : L2.St} {ρ : List Sl} (h : En K rs H0 G H σ ρ) : ∀ vs : List Nat, En K rs H0 G H (L2.wipe σ vs) (wipeS ρ vs)
  | [] => h
  | v :: vs => (En.wipe h vs).unset
/-- the tests of a comprehension -/
structure JTs (X : Cx) (c : Cn) (ifs : List Expr) (ρ : List Sl) (t : TT) (Φ : Pt Bool) : Prop where
  pe : PTs X ifs t
  sem : ∀ post ep, Φ post ep → ∀ G H σ, Wd c.rs G H → En X.K c.rs c.H0 G H σ ρ → ∀ Q : Bool → Hp → Prop, (∀ G' H' m, Gr c.rs G H G' H' → post m → Q m H') → XOk X c G H σ ep → t σ H Q
theorem ts_nil {X : Cx} {c : Cn} {ρ : List Sl} : JTs X c [] ρ tYes (fun post _ => post true) := ⟨pts_nil, fun post ep φ G H σ w E Q k hx => k G H true (Gr.refl w) φ⟩
theorem ts_one {X : Cx} {c : Cn} {ρ : List Sl} {e : Expr} {t : TT} {Φ : Pt Bool} (h : JT X c e ρ t Φ) : JTs X c [e] ρ t Φ := ⟨pts_one h.pe, h.sem⟩
/-- no exception leaves -/
abbrev Cn.nox (c : Cn) : Cn := ⟨c.rs, c.G0, c.H0, fun _ _ _ _ => False⟩
section
variable {X : Cx} {c : Cn} {ρ ρw : List Sl} {α β : Type} [Nonempty α] {iα : Rp α} {iβ : Rp β} {elt tg iter : Expr} {ifs : List Expr} {scope : Scope} {own : List (Str × Nat)} {pos : Pos} {wi : TI} {g : TG} {js : List Nat} {f : α → List Sl → List Sl} {tt : TT} {te : TE}
  {Φi : Pt (List α)} {Φt : α → Pt Bool} {Φe : α → Pt β}
theorem lc_sem (hjs : ∀ j ∈ js, j ∈ own.map (·.2)) (hw : wipeS ρ (own.map (·.2)) = ρw)
    (hi : JI X c tg iter ρ iα wi Φi) (hg : ∀ (rs : Rs) (H0 G H : Hp) (σ : L2.St) (ρ : List Sl) (v : V) (m : α), Wd rs G H → En X.K rs H0 G H σ ρ → iα.rp X.K G v m → ∀ Q : L2.St → Hp → Prop,
      (∀ σ', En X.K rs H0 G H σ' (f m ρ) → (∀ vs : List Nat, (∀ j ∈ js, j ∈ vs) → wipe σ' vs = wipe σ vs) → Q σ' H) → g v σ H Q)
    (ht : ∀ m post ep, Φt m post ep → ∀ G H σ, Wd c.rs G H → En X.K c.rs c.H0 G H σ (f m ρw) → ∀ Q : Bool → Hp → Prop, (∀ G' H' m, Gr c.rs G H G' H' → post m → Q m H') → XOk X c.nox G H σ ep → tt σ H Q)
    (he : ∀ m post ep, Φe m post ep → ∀ G H σ, Wd c.rs G H → En X.K c.rs c.H0 G H σ (f m ρw) → ∀ Q : VK, (∀ G' H' v m, Gr c.rs G H G' H' → iβ.rp X.K G' v m → post m → Q v H') → XOk X c.nox G H σ ep → te σ H Q)
    (post : List β → Prop) (ep : Exn → Prop) (φ : Φi (fun xs => xs.length ≤ sizeLine ∧ lcP Φt Φe post xs []) ep) (G H : Hp) (σ : L2.St) (w : Wd c.rs G H) (E : En X.K c.rs c.H0 G H σ ρ) (Q : VK)
    (k : ∀ G' H' l vs m, Gr c.rs G H G' H' → H' l = some (.lst vs) → RpAll iβ X.K G' vs m → vs.length ≤ sizeLine → H l = none → G' l = none → ¬ c.rs.S H' l → post m → Q (.ref l) H') (hx : XOk X c G H σ ep) : tLc wi g tt te (own.map (·.2)) σ H Q := by
  refine hi.sem _ _ φ G H σ w E _ (fun G1 H1 J xs st g1 wg hst p => ?_) hx
  obtain ⟨hz, p⟩ := p
  obtain ⟨Gd, Y, wk, hGd, hY⟩ := wg.go
  intro D hD
  have hHD : H D = none := by
    by_cases q : H D = none
    · exact q
    · exact absurd hD (g1.t D q)
  have gD : G1 D = none := by
    by_cases q : G1 D = none
    · exact q
    · cases e : G1 D with
      | none => exact absurd e q
      | some u =>
        have := g1.w.s D u e
        rw [hD] at this
        cases this
  have xo : ∀ (G' H' : Hp) (σ' : L2.St), XOk X c.nox G' H' σ' (fun _ => False) := fun _ _ _ _ _ _ _ _ _ _ z => z.elim
  refine lc_it wk (fun n H' => ∃ (G' : Hp) (vs : List V) (acc : List β), Gr c.rs G1 H1 G' H' ∧ H' D = some (.lst vs) ∧ RpAll iβ X.K G' vs acc ∧ vs.length ≤ n ∧ G' D = none ∧ ¬ c.rs.S H' D ∧ lcP Φt Φe post (xs.drop n) acc) ?_ ?_ ?_ ?_
  · exact ⟨G1, [], [], gr_newH g1.w hD, upd_same, .nil, Nat.le_refl _, gD, not_new g1.w hD, p⟩
  · rintro n H' _ ⟨G', vs, acc, g', _⟩
    exact hGd G' H' g'.w.s (wg.mono _ _ g'.g hst)
  · rintro n x H' H'' hn ⟨G', vs, acc, g', hd, hr, hl, hgD, hsD, p'⟩ y
    have em : xs[n]? = some xs[n] := List.getElem?_eq_getElem hn
    obtain ⟨G2, g2, r2⟩ := hY c.rs n _ G' H' x H'' g'.w (wg.mono _ _ g'.g hst) em y
    rw [List.drop_eq_getElem_cons hn] at p'
    have E2 : En X.K c.rs c.H0 G2 H'' (L2.wipe σ (own.map (·.2))) ρw := hw ▸ ((((E.up g1).up g').up g2)).wipe _
    refine hg c.rs c.H0 G2 H'' _ ρw x _ g2.w E2 r2 _ fun σ3 E3 w3 => ⟨?_, ?_⟩
    · rw [w3 _ hjs]
      have : ∀ (us : List Nat) (τ : L2.St), wipe (wipe τ us) us = wipe τ us := by
        intro us
        have key : ∀ (vs : List Nat) (τ : L2.St) (j : Nat), j ∈ vs → (wipe τ vs).set j none = wipe τ vs := by
          intro vs
          induction vs with
          | nil => intro τ j h; cases h
          | cons b vs ih =>
            intro τ j h
            show ((wipe τ vs).set b none).set j none = (wipe τ vs).set b none
            by_cases e : j = b
            · subst e
              rw [List.set_set]
            · have hj : j ∈ vs := by
                rcases List.mem_cons.mp h with h | h
                · exact absurd h e
                · exact h
              rw [List.set_comm _ _ (fun q => e q.symm), ih τ j hj]
        have sub : ∀ (as bs : List Nat) (τ : L2.St), (∀ j ∈ as, j ∈ bs) → wipe (wipe τ bs) as = wipe τ bs := by
          intro as
          induction as with
          | nil => intro bs τ _; rfl
          | cons a as ih =>
            intro bs τ h
            show (wipe (wipe τ bs) as).set a none = wipe τ bs
            rw [ih bs τ fun j hj => h j (List.mem_cons_of_mem _ hj)]
            exact key bs τ a (h a List.mem_cons_self)
        exact fun τ => sub us us τ fun j hj => hj
      exact this _ _
    · have g3 := g'.trans g2
      have keep : ∀ {Ga Ha Gb Hb : Hp}, Gr c.rs Ga Ha Gb Hb → Ha D = some (.lst vs) → Ga D = none → ¬ c.rs.S Ha D → Hb D = some (.lst vs) ∧ Gb D = none ∧ ¬ c.rs.S Hb D := fun {Ga Ha Gb Hb} gg h1 h2 h3 => by
        refine ⟨gg.h D _ h3 h1, gg.n D (some_ne h1) h2, fun z => ?_⟩
        rcases gg.f D z with q | q
        · exact h3 q
        · rw [q] at h1
          cases h1
      obtain ⟨d1, d2, d3⟩ := keep g2 hd hgD hsD
      refine ht _ _ _ p' G2 H'' σ3 g2.w E3 _ (fun G4 H4 m g4 p4 => ?_) (xo _ _ _)
      obtain ⟨e1, e2, e3⟩ := keep g4 d1 d2 d3
      have g34 := g3.trans g4
      cases m with
      | false => exact ⟨G4, vs, acc, g34, e1, hr.mono (g2.g.trans g4.g), Nat.le_succ_of_le hl, e2, e3, p4⟩
      | true =>
        refine he _ _ _ p4 G4 H4 σ3 g4.w (E3.up g4) _ (fun G5 H5 v m g5 r5 p5 => ?_) (xo _ _ _)
        obtain ⟨f1, f2, f3⟩ := keep g5 e1 e2 e3
        have g345 := g34.trans g5
        have hlt : vs.length < sizeLine := by omega
        refine ⟨vs, f1, hlt, G5, vs ++ [v], acc ++ [m], gr_mut g345 hD f2 f3 (some_ne f1), upd_same, (hr.mono ((g2.g.trans g4.g).trans g5.g)).append (.cons r5 .nil), ?_, f2, ?_, p5⟩
        · rw [List.length_append, List.length_singleton]
          omega
        · intro z
          have e : ∀ a, c.rs.S H5 a → upd H5 D (.lst (vs ++ [v])) a = H5 a := fun a ha => upd_ne fun q => f3 (q ▸ ha)
          exact f3 (((c.rs.loc g5.w.i e).2 D).mp z)
  · rintro H' ⟨G', vs, acc, g', hd, hr, hl, hgD, hsD, p'⟩
    rw [List.drop_length] at p'
    exact k G' H' D vs acc (g1.trans g') hd hr (by omega) hHD hgD hsD p'
theorem e_lc (hc : X.calm = true) (hN : X.N.Nodup) (ok : BlkOk X.N X.env.scope scope own) (hjs : ∀ j ∈ js, j ∈ own.map (·.2)) (hw : wipeS ρ (own.map (·.2)) = ρw) (hi : JI X c tg iter ρ iα wi Φi)
    (hg : ∀ (s : Shared) (H : Hp) (C : Addr) (cl : List (Str × Addr)) (fp : List Addr), JG (X.blk s H scope (compEnvC scope cl C X.env) fp) tg iα g js f)
    (ht : ∀ (s : Shared) (H : Hp) (C : Addr) (cl : List (Str × Addr)) (fp : List Addr) (m : α), JTs (X.blk s H scope (compEnvC scope cl C X.env) fp) c.nox ifs (f m ρw) tt (Φt m))
    (he : ∀ (s : Shared) (H : Hp) (C : Addr) (cl : List (Str × Addr)) (fp : List Addr) (m : α), JE (X.blk s H scope (compEnvC scope cl C X.env) fp) c.nox elt (f m ρw) iβ te (Φe m)) (hs : ∀ x : Value, foldedSetIterable iter X.env x = pure x := by intro _; rfl) :
    JE X c (.ListComp elt [⟨tg, iter, ifs, 0⟩] scope pos) ρ (rpL (i := iβ)) (tLc wi g tt te (own.map (·.2))) (fun post ep => Φi (fun xs => xs.length ≤ sizeLine ∧ lcP Φt Φe post xs []) ep) := by
  have m0 : α := Classical.choice inferInstance
  refine ⟨pe_lc hc hN hi.pe ok (fun s H C cl fp => (hg s H C cl fp).pe) (fun s H C cl fp => (ht s H C cl fp m0).pe) (fun s H C cl fp => (he s H C cl fp m0).pe) hs, fun post ep φ G H σ w E Q k hx => ?_⟩
  refine lc_sem hjs hw hi (hg X.s_0 X.H_0 0 [] []).sem (fun m => (ht X.s_0 X.H_0 0 [] [] m).sem) (fun m => (he X.s_0 X.H_0 0 [] [] m).sem) post ep φ G H σ w E Q (fun G' H' l vs m g h1 h2 h3 h4 h5 h6 p => ?_) hx
  have gf := gr_frz g h4 h5 h6 h1
  exact k _ _ _ _ gf ⟨l, vs, rfl, upd_same, h2.mono (Ex.new h5), h3⟩ p
/-- name = [..] on one line -/
theorem b_setLc {S L γ : Type} {out : S → List Sl} {lp : L → List Sl} {iγ : Rp γ} {rest : List Stmt} {tr : TS} {spos : Pos} {y : Str} {py : Pos} {Φr : List β → Pt (Out S L γ)} (j : Nat) (hc : X.calm = true) (hN : X.N.Nodup) (ok : BlkOk X.N X.env.scope scope own) (hjs : ∀ j ∈ js, j ∈ own.map (·.2)) (hw : wipeS ρ (own.map (·.2)) = ρw) (hi : JI X c tg iter ρ iα wi Φi)
    (hg : ∀ (s : Shared) (H : Hp) (C : Addr) (cl : List (Str × Addr)) (fp : List Addr), JG (X.blk s H scope (compEnvC scope cl C X.env) fp) tg iα g js f)
    (ht : ∀ (s : Shared) (H : Hp) (C : Addr) (cl : List (Str × Addr)) (fp : List Addr) (m : α), JTs (X.blk s H scope (compEnvC scope cl C X.env) fp) c.nox ifs (f m ρw) tt (Φt m))
    (he : ∀ (s : Shared) (H : Hp) (C : Addr) (cl : List (Str × Addr)) (fp : List Addr) (m : α), JE (X.blk s H scope (compEnvC scope cl C X.env) fp) c.nox elt (f m ρw) iβ te (Φe m))
    (hr : ∀ m, JB X c rest (ρ.set j (.val (rpL (i := iβ)) m)) out lp iγ tr (Φr m)) (hj : X.N[j]? = some y := by rfl) (hyl : X.env.scope.names.lookup y = some .local := by rfl)
    (hsw : swapsWith (.ListComp elt [⟨tg, iter, ifs, 0⟩] scope pos) (some (.Name y py)) spos.line X.env = pure true := by exact sw_true rfl rfl rfl (by decide +kernel)) (hs : ∀ x : Value, foldedSetIterable iter X.env x = pure x := by intro _; rfl) :
    JB X c (.Assign [.Name y py] (.ListComp elt [⟨tg, iter, ifs, 0⟩] scope pos) spos :: rest) ρ out lp iγ (tSeq (tAsg (tLc wi g tt te (own.map (·.2))) (gName j)) tr)
      (fun post ep => Φi (fun xs => xs.length ≤ sizeLine ∧ lcP Φt Φe (fun m => Φr m post ep) xs []) ep) := by
  have m0 : α := Classical.choice inferInstance
  refine ⟨pss_cons (ps_setLc hc hN hj hyl hsw hi.pe ok (fun s H C cl fp => (hg s H C cl fp).pe) (fun s H C cl fp => (ht s H C cl fp m0).pe) (fun s H C cl fp => (he s H C cl fp m0).pe) hs) (hr []).pe, fun post ep φ G H σ gg E D k hx => ?_⟩
  show tLc wi g tt te (own.map (·.2)) σ H fun x H1 => gName j x σ H1 (fun σ' H' => tr D σ' H')
  refine lc_sem hjs hw hi (hg X.s_0 X.H_0 0 [] []).sem (fun m => (ht X.s_0 X.H_0 0 [] [] m).sem) (fun m => (he X.s_0 X.H_0 0 [] [] m).sem) (fun m => Φr m post ep) ep φ G H σ gg.w E _ (fun G' H' l vs m g h1 h2 h3 h4 h5 h6 p => ?_) (hx.at gg)
  have gf := gr_frz g h4 h5 h6 h1
  exact (hr m).sem _ _ p _ _ _ (gg.trans gf) ((E.up gf).set (x := .val (rpL (i := iβ)) m) ⟨_, rfl, l, vs, rfl, upd_same, h2.mono (Ex.new h5), h3⟩ rfl) D (k.up gf.g) hx
end

/-! ### own lists -/
theorem En.setOwn {K : Fg} {rs : Rs} {H0 G H : Hp} {σ : L2.St} {ρ : List Sl} {j : Nat} {l : Addr} {x : Sl} (h : En K rs H0 G H σ ρ) (hx : SlOk K rs H0 G H (some (some (.ref l))) x)
    (hn : ∀ (k : Nat) (y : Sl), k ≠ j → ρ[k]? = some y → y.own = true → σ[k]? ≠ some (some (.ref l))) : En K rs H0 G H (σ.set j (some (.ref l))) (ρ.set j x) := by
  refine ⟨by simp [h.len], fun i y e => ?_, fun i k y z q ne e1 e2 o1 o2 s1 s2 => ?_⟩
  · rcases get_set e with ⟨rfl, rfl, z⟩ | ⟨q, e⟩
    · rw [List.getElem?_set_self (by rw [h.len]; exact z)]
      exact hx
    · rw [List.getElem?_set_ne q]
      exact h.ok i y e
  · rcases get_set e1 with ⟨rfl, rfl, z1⟩ | ⟨q1, e1⟩
    · rcases get_set e2 with ⟨rfl, _, _⟩ | ⟨q2, e2⟩
      · exact ne rfl
      · rw [List.getElem?_set_self (by rw [h.len]; exact z1)] at s1
        rw [List.getElem?_set_ne q2] at s2
        cases s1
        exact hn k z (fun e => q2 e.symm) e2 o2 s2
    · rw [List.getElem?_set_ne q1] at s1
      have e1' : ρ[i]? = some y := by assumption
      rcases get_set e2 with ⟨hjk, hzx, z2⟩ | ⟨q2, e2⟩
      · rw [← hjk, List.getElem?_set_self (by rw [h.len]; exact z2)] at s2
        cases s2
        exact hn i y (fun e => q1 e.symm) e1' o1 s1
      · rw [List.getElem?_set_ne q2] at s2
        exact h.sep i k y z q ne e1' e2 o1 o2 s1 s2
theorem En.own_some {K : Fg} {rs : Rs} {H0 G H : Hp} {σ : L2.St} {ρ : List Sl} (h : En K rs H0 G H σ ρ) {k : Nat} {y : Sl} {l : Addr} (e : ρ[k]? = some y) (o : y.own = true) (s : σ[k]? = some (some (.ref l))) : H l ≠ none := by
  have q := h.ok k y e
  cases y with
  | no => cases o
  | val i m => cases o
  | rf a => cases o
  | ml i xs =>
    obtain ⟨l', vs, h1, h2, _⟩ := q
    rw [s] at h1
    cases h1
    exact some_ne h2
  | md i xs =>
    obtain ⟨l', vs, h1, h2, _⟩ := q
    rw [s] at h1
    cases h1
    exact some_ne h2
  | oi l' C fs =>
    obtain ⟨dx, vs, h1, h2, _⟩ := q
    rw [s] at h1
    cases h1
    exact some_ne h2
/-- an own object is changed: the others stay -/
theorem En.mut {K : Fg} {rs : Rs} {H0 G H : Hp} {σ : L2.St} {ρ : List Sl} {j : Nat} {l : Addr} {x0 x : Sl} {o : HO} (h : En K rs H0 G H σ ρ) (w : Wd rs G H) (hj : ρ[j]? = some x0) (ho : x0.own = true) (hs : σ[j]? = some (some (.ref l))) (hl : H l = some o) (ns : ¬ rs.S H l) (no : ∀ a, o ≠ .own a) {o' : HO}
    (hx : SlOk K rs H0 G (upd H l o') (some (some (.ref l))) x) : En K rs H0 G (upd H l o') σ (ρ.set j x) := by
  have es : ∀ a, rs.S H a → upd H l o' a = H a := fun a ha => upd_ne fun z => ns (z ▸ ha)
  have S' := (rs.loc w.i es).2
  refine ⟨by simp [h.len], fun i y e => ?_, fun i k y z q ne e1 e2 o1 o2 s1 s2 => ?_⟩
  · rcases get_set e with ⟨rfl, rfl, z⟩ | ⟨q, e⟩
    · rw [hs]
      exact hx
    · have p := h.ok i y e
      cases y with
      | no => trivial
      | val i m => exact p
      | rf a => exact p
      | ml ii xs =>
        obtain ⟨l', vs, h1, h2, h3, h4, h5, h6⟩ := p
        have ne : l' ≠ l := fun z => h.sep j i _ _ l q hj e ho rfl hs (z ▸ h1)
        exact ⟨l', vs, h1, by rw [upd_ne ne]; exact h2, h3, h4, h5, fun z => h6 ((S' l').mp z)⟩
      | md ii xs =>
        obtain ⟨l', vs, h1, h2, h3, h4, h5, h6⟩ := p
        have ne : l' ≠ l := fun z => h.sep j i _ _ l q hj e ho rfl hs (z ▸ h1)
        exact ⟨l', vs, h1, by rw [upd_ne ne]; exact h2, h3, h4, h5, fun z => h6 ((S' l').mp z)⟩
      | oi l' C fs =>
        obtain ⟨dx, vs, h1, h2, h3, h4, h5, h6, h7, h8, h9, h10⟩ := p
        have ne : l' ≠ l := fun z => h.sep j i _ _ l q hj e ho rfl hs (z ▸ h1)
        have nd : dx ≠ l := fun z => by
          rw [z, hl] at h7
          exact no _ (Option.some.inj h7)
        exact ⟨dx, vs, h1, by rw [upd_ne ne]; exact h2, h3, h4, h5, fun z => h6 ((S' l').mp z), by rw [upd_ne nd]; exact h7, h8, h9, fun z => h10 ((S' dx).mp z)⟩
  · have back : ∀ {a : Nat} {b : Sl}, (ρ.set j x)[a]? = some b → b.own = true → ∃ b', ρ[a]? = some b' ∧ b'.own = true := fun {a b} e ob => by
      rcases get_set e with ⟨rfl, rfl, _⟩ | ⟨_, e⟩
      · exact ⟨_, hj, ho⟩
      · exact ⟨_, e, ob⟩
    obtain ⟨y', e1', o1'⟩ := back e1 o1
    obtain ⟨z', e2', o2'⟩ := back e2 o2
    exact h.sep i k _ _ q ne e1' e2' o1' o2' s1 s2
section
variable {X : Cx} {c : Cn} {ρ : List Sl} {S L β α : Type} {out : S → List Sl} {lp : L → List Sl} {i : Rp β} {iα : Rp α} {pos : Pos} {rest : List Stmt} {tr : TS} {e : Expr} {te : TE} {Φe : Pt α}
/-- x = [] -/
theorem b_new (iα : Rp α) (j : Nat) {x : Str} {px p1 : Pos} {Φr : Pt (Out S L β)} (hN : X.N.Nodup) (hr : JB X c rest (ρ.set j (.ml iα [])) out lp i tr Φr) (hj : X.N[j]? = some x := by rfl) (hx : Loc X.env.scope x := by first | exact Or.inl rfl | exact Or.inr rfl)
    (hs : swapsWith (.List [] p1) (some (.Name x px)) pos.line X.env = pure false := by rfl) (hf : X.fn x = true ∨ X.env.scope.names.lookup x = some .local := by first | exact .inl rfl | exact .inr rfl) :
    JB X c (.Assign [.Name x px] (.List [] p1) pos :: rest) ρ out lp i (tSeq (tAsg (tLst tNil) (gName j)) tr) Φr := by
  refine ⟨pss_cons (ps_set hN hj hx (pe_lst pa_nil) hs hf) hr.pe, fun post ep φ G H σ g E D k hx => ?_⟩
  refine ⟨Nat.zero_le _, fun p hp => ?_⟩
  have gn := gr_newH (o := .lst []) g.w hp
  have h0 : c.H0 p = none := by
    by_cases q : c.H0 p = none
    · exact q
    · exact absurd hp (g.t p q)
  have hg : G p = none := by
    cases e : G p with
    | none => rfl
    | some u =>
      have := g.w.s p u e
      rw [hp] at this
      cases this
  refine hr.sem _ _ φ G _ _ (g.trans gn) ((E.up gn).setOwn (x := .ml iα []) ⟨p, [], rfl, upd_same, .nil, h0, hg, not_new g.w hp⟩ fun q y _ ey oy sy => ?_) D k hx
  exact absurd hp (E.own_some ey oy sy)
/-- x.append(e) -/
theorem b_app {xs : List α} (j : Nat) {x : Str} {px pa pc : Pos} {Φr : α → Pt (Out S L β)} (hρ : ρ[j]? = some (.ml iα xs)) [Nonempty α] (he : JE X c e ρ iα te Φe) (hr : ∀ m, JB X c rest (ρ.set j (.ml iα (xs ++ [m]))) out lp i tr (Φr m))
    (hpe : PE X (.Call (.Attribute (.Name x px) "append" pa) [e] [] pc) (tBM X.K "list" rAppend (tVar j) (tCons te tNil))) (hs : swapsWith (.Call (.Attribute (.Name x px) "append" pa) [e] [] pc) none pos.line X.env = pure false := by rfl) :
    JB X c (.Expr (.Call (.Attribute (.Name x px) "append" pa) [e] [] pc) pos :: rest) ρ out lp i (tSeq (tDrop (tBM X.K "list" rAppend (tVar j) (tCons te tNil))) tr) (fun post ep => Φe (fun m => xs.length < sizeLine ∧ Φr m post ep) ep) := by
  refine ⟨pss_cons (ps_expr hpe hs) (hr (Classical.choice inferInstance)).pe, fun post ep φ G H σ g E D k hx => ?_⟩
  obtain ⟨l, vs, h1, h2, h3, h4, h5, h6⟩ := E.ok j _ hρ
  refine ⟨.ref l, h1, .inl ⟨rfl, vs, SqL.of h2⟩, ?_⟩
  refine he.sem _ _ φ G H σ g.w E _ (fun G1 H1 v m g1 r p => ?_) (hx.at g)
  obtain ⟨l', vs', h1', h2', h3', h4', h5', h6'⟩ := (E.up g1).ok j _ hρ
  rw [h1] at h1'
  cases h1'
  have hlen := h3'.length
  refine ⟨l, vs', v, rfl, rfl, h2', by rw [hlen]; exact p.1, ?_⟩
  have gm := gr_mut (o := .lst (vs' ++ [v])) (g.trans g1) h4' h5' h6' (some_ne h2')
  have es : ∀ a, c.rs.S H1 a → upd H1 l (.lst (vs' ++ [v])) a = H1 a := fun a ha => upd_ne fun z => h6' (z ▸ ha)
  refine (hr m).sem _ _ p.2 G1 _ σ gm ((E.up g1).mut g1.w hρ rfl h1 h2' h6' (fun a z => by cases z) (x := .ml iα (xs ++ [m])) ⟨l, vs' ++ [v], rfl, upd_same, h3'.append (.cons r .nil), h4', h5', fun z => h6' (((c.rs.loc g1.w.i es).2 l).mp z)⟩) D (k.up g1.g) hx
/-- an own list is known for good from here on -/
theorem b_frz {xs : List α} (j : Nat) {Φr : Pt (Out S L β)} (hρ : ρ[j]? = some (.ml iα xs)) (hr : JB X c rest (ρ.set j (.val (rpL (i := iα)) xs)) out lp i tr Φr) : JB X c rest ρ out lp i tr (fun post ep => xs.length ≤ sizeLine ∧ Φr post ep) := by
  refine ⟨hr.pe, fun post ep φ G H σ g E D k hx => ?_⟩
  obtain ⟨l, vs, h1, h2, h3, h4, h5, h6⟩ := E.ok j _ hρ
  have hlen := h3.length
  have gf := gr_frz g h4 h5 h6 h2
  have E' : En X.K c.rs c.H0 (upd G l (.lst vs)) H σ (ρ.set j (.val (rpL (i := iα)) xs)) := by
    refine ⟨by simp [E.len], fun q y e => ?_, fun q r y z b ne e1 e2 o1 o2 s1 s2 => ?_⟩
    · rcases get_set e with ⟨rfl, rfl, z⟩ | ⟨qq, e⟩
      · exact ⟨.ref l, h1, l, vs, rfl, upd_same, h3.mono (Ex.new h5), by rw [hlen]; exact φ.1⟩
      · have p := E.ok q y e
        cases y with
        | no => trivial
        | val ii m =>
          obtain ⟨v, p1, p2⟩ := p
          exact ⟨v, p1, Rp.mono (Ex.new h5) p2⟩
        | rf a => exact p
        | ml ii ys =>
          obtain ⟨l', vs', q1, q2, q3, q4, q5, q6⟩ := p
          have ne : l' ≠ l := fun z => E.sep j q _ _ l qq hρ e rfl rfl h1 (z ▸ q1)
          exact ⟨l', vs', q1, q2, q3.mono (Ex.new h5), q4, by rw [upd_ne ne]; exact q5, q6⟩
        | md ii ys =>
          obtain ⟨l', vs', q1, q2, q3, q4, q5, q6⟩ := p
          have ne : l' ≠ l := fun z => E.sep j q _ _ l qq hρ e rfl rfl h1 (z ▸ q1)
          exact ⟨l', vs', q1, q2, q3.mono (Ex.new h5), q4, by rw [upd_ne ne]; exact q5, q6⟩
        | oi l' C fs =>
          obtain ⟨dx, vs', q1, q2, q3, q4, q5, q6, q7, q8, q9, q10⟩ := p
          have ne : l' ≠ l := fun z => E.sep j q _ _ l qq hρ e rfl rfl h1 (z ▸ q1)
          have nd : dx ≠ l := fun z => by
            rw [z, h2] at q7
            cases q7
          exact ⟨dx, vs', q1, q2, q3.mono (Ex.new h5), q4, by rw [upd_ne ne]; exact q5, q6, q7, q8, by rw [upd_ne nd]; exact q9, q10⟩
    · rcases get_set e1 with ⟨_, rfl, _⟩ | ⟨q1, e1⟩
      · cases o1
      rcases get_set e2 with ⟨_, rfl, _⟩ | ⟨q2, e2⟩
      · cases o2
      exact E.sep q r y z b ne e1 e2 o1 o2 s1 s2
  exact hr.sem _ _ φ.2 _ H σ gf E' D (k.up (Ex.new h5)) hx
end
end Ty

set_option Elab.async false
set_option linter.all false
set_option maxRecDepth 100000
set_option maxHeartbeats 4000000
set_option autoImplicit false
/-! Ty, part E: defs, instances, own operators -/
namespace Ty
open PySem PySem.Spec PyProof.Rows L2

theorem en_no : ∀ ρ : List Sl, EnLe ρ (List.replicate ρ.length .no)
  | [] => .nil
  | x :: r => .cons (.no x) (en_no r)
theorem en_args {K : Fg} {rs : Rs} {H0 G H : Hp} : ∀ {vs : List V} {as : List Sl}, ArgsOk K G vs as → ∀ (n : Nat), En K rs H0 G H (vs.map some ++ List.replicate n none) (as ++ List.replicate n .no) := by
  intro vs as h n
  have len := h.len
  have noOwn : ∀ (i : Nat) (x : Sl), (as ++ List.replicate n Sl.no)[i]? = some x → x.own = false := by
    intro i x e
    have all : ∀ (vs : List V) (as : List Sl), ArgsOk K G vs as → ∀ x ∈ as, x.own = false := by
      intro vs as h
      induction h with
      | nil => intro x hx; cases hx
      | cons h _ ih =>
        intro x hx
        rcases List.mem_cons.mp hx with rfl | hx
        · cases h <;> rfl
        · exact ih x hx
    rcases List.mem_append.mp (List.mem_of_getElem? e) with q | q
    · exact all vs as h x q
    · rw [List.eq_of_mem_replicate q]
      rfl
  refine ⟨by simp [len], fun i x e => ?_, fun i j x y l ne e1 e2 o1 o2 s1 s2 => ?_⟩
  · have get : ∀ (vs : List V) (as : List Sl), ArgsOk K G vs as → ∀ (i : Nat) (x : Sl), as[i]? = some x → ∃ v, vs[i]? = some v ∧ ArgOk K G v x := by
      intro vs as h
      induction h with
      | nil => intro i x e; simp at e
      | cons h _ ih =>
        intro i x e
        cases i with
        | zero =>
          simp at e
          subst e
          exact ⟨_, rfl, h⟩
        | succ i =>
          obtain ⟨v, h1, h2⟩ := ih i x (by simpa using e)
          exact ⟨v, by simpa using h1, h2⟩
    by_cases hi : i < as.length
    · rw [List.getElem?_append_left hi] at e
      obtain ⟨v, h1, h2⟩ := get vs as h i x e
      have hs : (vs.map some ++ List.replicate n none)[i]? = some (some v) := by
        rw [List.getElem?_append_left (by simpa [len] using hi), List.getElem?_map, h1]
        rfl
      rw [hs]
      cases h2 with
      | val h2 => exact ⟨v, rfl, h2⟩
      | rf => rfl
    · rw [List.getElem?_append_right (by omega)] at e
      rw [List.eq_of_mem_replicate (List.mem_of_getElem? e)]
      trivial
  · rw [noOwn i x e1] at o1
    cases o1

/-! ### THE RULE for a def -/
section
variable {P : Program} {w : World} {K : Fg} {mg : Str → Option Value} {base : Heap} {x qual : Str} {params : Arguments} {body : List Stmt} {scope : Scope} {f : Addr} {fd : FuncData} {N ps : List Str} {k : Nat} {ι β : Type} {i : Rp β}
abbrev Cf (P : Program) (w : World) (K : Fg) (mg : Str → Option Value) (base : Heap) (N : List Str) (qual : Str) (scope : Scope) (f : Addr) (cdv : Value) (A : Around) (outer : List Env) (s : Shared) (H : Hp) (E : XK) : Cx := cxOf (L2.CX P w) P w K mg base N qual scope f cdv A outer s H E
abbrev Cc (rs : Rs) (G H : Hp) (E : XK) : Cn := ⟨rs, G, H, fun cls d _ H' => E cls d H'⟩
/-- what is wanted of a body's ends -/
def endP {S L β : Type} (fall : Prop) (post : β → Prop) : Out S L β → Prop
  | .rt b => post b
  | .nx _ => fall
  | _ => False
theorem fn_core {dvs : List V} {kws : List (Str × V)} (F : FunD K x qual params body scope dvs kws f fd) (S : FnScope N ps scope) {Lx : Type} {lp : Lx → List Sl} {sp : Sp} (fall : (β → Prop) → Prop) (hfall : ∀ (post : β → Prop) G v, fall post → v = V.non → ∃ m, i.rp K G v m ∧ post m)
    (hsp : ∀ vs H Q E, sp vs H Q E → ∃ (rs : Rs) (as : List Sl) (G : Hp) (Φ : Pt β) (post : β → Prop) (ep : Exn → Prop), Wd rs G H ∧ ArgsOk K G vs as ∧ Φ post ep ∧ (∀ G' H' v m, Gr rs G H G' H' → i.rp K G' v m → post m → Q v H') ∧ (∀ G' H' cls d e, Gr rs G H G' H' → XRep K G' H' cls d e → ep e → E cls d H') ∧ as.length = ps.length ∧
      ∀ (cdv : Value) (A : Around) (outer : List Env) (s : Shared), Room k (A.deeper (envOfC qual scope s.heap.objs.size f cdv)) → ∃ tb Φb, JB (Cf P w K mg base N qual scope f cdv A outer s H E) (Cc rs G H E) body (as ++ List.replicate (N.length - ps.length) .no) (fun _ : Unit => List.replicate N.length .no) lp i tb Φb ∧ (∀ post ep, Φ post ep → Φb (endP (fall post) post) ep)) :
    FnOk P w K mg base (L2.CX P w) (k + 1) f fd ps sp := by
  refine F.ok S (fun vs H Q E h => ?_) (fun cdv A outer s H vs Q E hr h => ?_)
  · obtain ⟨rs, as, G, Φ, post, ep, _, ha, _, _, _, hl, _⟩ := hsp vs H Q E h
    exact ha.len.trans hl
  · obtain ⟨rs, as, G, Φ, post, ep, wd, ha, φ, hq, hx, hl, hb⟩ := hsp vs H Q E h
    obtain ⟨tb, Φb, J, hΦ⟩ := hb cdv A outer s hr
    refine ⟨tb, J.pe, J.sem _ _ (hΦ post ep φ) G H _ (Gr.refl wd) ?_ _ ⟨?_, ?_, ?_, ?_⟩ ?_⟩
    · have e := en_args (rs := rs) (H0 := H) (H := H) ha (N.length - ps.length)
      unfold L2.start
      rw [show N.length - vs.length = N.length - ps.length by rw [ha.len, hl]]
      exact e
    · intro G' H' σ' s' g _ _ p
      obtain ⟨m, r, pm⟩ := hfall post G' V.non p rfl
      exact hq G' H' _ m g r pm
    · exact fun G' H' v b g _ r p => hq G' H' v b g r p
    · exact fun G' H' σ' l g _ _ p => p.elim
    · exact fun G' H' σ' l g _ _ p => p.elim
    · exact fun G' H' σ' cls d e g r p => hx G' H' cls d e g r p
/-- a def without a resource -/
theorem fn_ok {dvs : List V} {kws : List (Str × V)} (F : FunD K x qual params body scope dvs kws f fd) (S : FnScope N ps scope) {as : ι → List Sl} {Φ : ι → Pt β} {Φb : ι → Pt (Out Unit Empty β)} (hl : ∀ y, (as y).length = ps.length)
    (hb : ∀ (y : ι) (cdv : Value) (A : Around) (outer : List Env) (s : Shared) (H G : Hp) (E : XK), Room k (A.deeper (envOfC qual scope s.heap.objs.size f cdv)) →
      ∃ tb, JB (Cf P w K mg base N qual scope f cdv A outer s H E) (Cc rs0 G H E) body (as y ++ List.replicate (N.length - ps.length) .no) (fun _ : Unit => List.replicate N.length .no) (fun z : Empty => nomatch z) i tb (Φb y))
    (hΦ : ∀ y post ep, Φ y post ep → Φb y (endP False post) ep) : FnOk P w K mg base (L2.CX P w) (k + 1) f fd ps (spOf K rs0 as i Φ) := by
  refine fn_core (i := i) (lp := fun z : Empty => nomatch z) F S (fun _ => False) (fun _ _ _ h => h.elim) fun vs H Q E h => ?_
  obtain ⟨G, y, post, ep, wd, ha, φ, hq, hx⟩ := h
  refine ⟨rs0, as y, G, Φ y, post, ep, wd, ha, φ, hq, hx, hl y, fun cdv A outer s hr => ?_⟩
  obtain ⟨tb, J⟩ := hb y cdv A outer s H G E hr
  exact ⟨tb, _, J, hΦ y⟩
/-- a def that hands back None -/
theorem fn_okU {dvs : List V} {kws : List (Str × V)} (F : FunD K x qual params body scope dvs kws f fd) (S : FnScope N ps scope) {as : ι → List Sl} {Φ : ι → Pt Unit} {Φb : ι → Pt (Out Unit Empty Unit)} (hl : ∀ y, (as y).length = ps.length)
    (hb : ∀ (y : ι) (cdv : Value) (A : Around) (outer : List Env) (s : Shared) (H G : Hp) (E : XK), Room k (A.deeper (envOfC qual scope s.heap.objs.size f cdv)) →
      ∃ tb, JB (Cf P w K mg base N qual scope f cdv A outer s H E) (Cc rs0 G H E) body (as y ++ List.replicate (N.length - ps.length) .no) (fun _ : Unit => List.replicate N.length .no) (fun z : Empty => nomatch z) rpN tb (Φb y))
    (hΦ : ∀ y post ep, Φ y post ep → Φb y (endP (post ()) post) ep) : FnOk P w K mg base (L2.CX P w) (k + 1) f fd ps (spOf K rs0 as rpN Φ) := by
  refine fn_core (i := rpN) (lp := fun z : Empty => nomatch z) F S (fun post => post ()) (fun _ _ _ h e => ⟨(), e, h⟩) fun vs H Q E h => ?_
  obtain ⟨G, y, post, ep, wd, ha, φ, hq, hx⟩ := h
  refine ⟨rs0, as y, G, Φ y, post, ep, wd, ha, φ, hq, hx, hl y, fun cdv A outer s hr => ?_⟩
  obtain ⟨tb, J⟩ := hb y cdv A outer s H G E hr
  exact ⟨tb, _, J, hΦ y⟩
/-- a def that turns a resource -/
theorem fn_okR {dvs : List V} {kws : List (Str × V)} (F : FunD K x qual params body scope dvs kws f fd) (S : FnScope N ps scope) {rs : Addr → Rs} {as : Addr → ι → List Sl} {Φ : ι → Pt β} {Φb : ι → Pt (Out Unit Empty β)} (hl : ∀ q y, (as q y).length = ps.length)
    (hb : ∀ (q : Addr) (y : ι) (cdv : Value) (A : Around) (outer : List Env) (s : Shared) (H G : Hp) (E : XK), Room k (A.deeper (envOfC qual scope s.heap.objs.size f cdv)) →
      ∃ tb, JB (Cf P w K mg base N qual scope f cdv A outer s H E) (Cc (rs q) G H E) body (as q y ++ List.replicate (N.length - ps.length) .no) (fun _ : Unit => List.replicate N.length .no) (fun z : Empty => nomatch z) i tb (Φb y))
    (hΦ : ∀ y post ep, Φ y post ep → Φb y (endP False post) ep) : FnOk P w K mg base (L2.CX P w) (k + 1) f fd ps (spR K rs as i Φ) := by
  refine fn_core (i := i) (lp := fun z : Empty => nomatch z) F S (fun _ => False) (fun _ _ _ h => h.elim) fun vs H Q E h => ?_
  obtain ⟨q, G, y, post, ep, wd, ha, φ, hq, hx⟩ := h
  refine ⟨rs q, as q y, G, Φ y, post, ep, wd, ha, φ, hq, hx, hl q y, fun cdv A outer s hr => ?_⟩
  obtain ⟨tb, J⟩ := hb q y cdv A outer s H G E hr
  exact ⟨tb, _, J, hΦ y⟩
end

/-! ### instances -/
/-- reading a field -/
def FldW (K : Fg) {α β : Type} (iα : Rp α) (f : Str) (iβ : Rp β) (get : α → β) : Prop :=
  ∀ (G : Hp) (v : V) (m : α), iα.rp K G v m → ∃ a C dx fs u, v = .ref a ∧ G a = some (.ins C dx fs) ∧ Cls K C ∧ NoAttr K C f ∧ fs.lookup f = some u ∧ iβ.rp K G u (get m)
section
variable {X : Cx} {c : Cn} {ρ : List Sl} {α β : Type} {iα : Rp α} {iβ : Rp β} {e : Expr} {te : TE} {Φe : Pt α} {pos : Pos} {f : Str} {get : α → β}
theorem e_fld (hf : FldW X.K iα f iβ get) (he : JE X c e ρ iα te Φe) (hb : attributeBase e f X.env (eval e X.env) = eval e X.env := by rfl) : JE X c (.Attribute e f pos) ρ iβ (tFld X.K te f) (fun post ep => Φe (fun m => post (get m)) ep) := by
  refine ⟨pe_fld he.pe hb, fun post ep φ G H σ w E Q k hx => he.sem _ _ φ G H σ w E _ (fun G1 H1 v m g r p => ?_) hx⟩
  obtain ⟨a, C, dx, fs, u, rfl, h1, h2, h3, h4, h5⟩ := hf G1 v m r
  exact ⟨a, C, dx, fs, u, rfl, g.w.s _ _ h1, h2, h3, h4, k G1 H1 u _ g h5 p⟩
end
/-- what an __init__ promises: the new instance at x, then the arguments -/
def spI (K : Fg) (C : Addr) {ι δ : Type} (as : ι → List Sl) (i : Rp δ) (Φ : ι → Pt δ) : Sp := fun vs H Q E =>
  ∃ (G Hb : Hp) (x dx : Addr) (us : List V) (y : ι) (post : δ → Prop) (ep : Exn → Prop), vs = .ref x :: us ∧ H = upd (upd Hb dx (.own x)) x (.ins C dx []) ∧ Hb x = none ∧ Hb dx = none ∧ dx ≠ x ∧ Wd rs0 G Hb ∧ ArgsOk K G us (as y) ∧ Φ y post ep ∧
    (∀ G' H' m, Gr rs0 G Hb G' H' → i.rp K G' (.ref x) m → post m → Q .non H') ∧ ∀ G' H' cls d e, Gr rs0 G Hb G' H' → XRep K G' H' cls d e → ep e → E cls d H'
def tMakeS (C : Addr) (sp : Sp) (E : L2.St → XK) (t : TA) : TE := fun σ H Q => t σ H fun vs H1 => ∀ x dx, H1 x = none → H1 dx = none → dx ≠ x → sp (.ref x :: vs) (upd (upd H1 dx (.own x)) x (.ins C dx [])) (fun v H2 => v = .non ∧ Q (.ref x) H2) (E σ)
section
variable {X : Cx} {CX : CXT} {k : Nat} {f C : Addr} {fd : FuncData} {ps : List Str} {sp : Sp} {E : L2.St → XK} {x : Str} {p pos : Pos} {e : Expr} {es : List Expr} {t : TA}
theorem run_makeS {pins : List (Addr × Obj)} {σ : L2.St} {H : Hp} {s : Shared} {Q : VK} {us : List Value} {vs : List V} (M : Mk X.K C f) (F : FnOk X.prog X.w X.K X.mg X.base CX k f fd ps sp) (hr : Room (k + 1) X.A) (hb : Binds X.K fd ps [])
    (hx : PassesAt CX X σ (E σ)) (I : Inv X pins σ H s) (r : Vals vs us)
    (h : ∀ x dx, H x = none → H dx = none → dx ≠ x → sp (.ref x :: vs) (upd (upd H dx (.own x)) x (.ins C dx [])) (fun v H2 => v = .non ∧ Q (.ref x) H2) (E σ)) :
    wpAny (model X.prog X.w) X.A (call (.ref C) us) (EP X pins σ Q) X.xe s := by
  have hq := h (s.heap.objs.size + 1) s.heap.objs.size (I.hok.fresh (Nat.le_succ _)) (I.hok.fresh (Nat.le_refl _)) (Nat.ne_of_lt (Nat.lt_succ_self _))
  have I2 := Inv.made (C := C) I
  have r2 : Vals (V.ref (s.heap.objs.size + 1) :: vs) (Value.ref (s.heap.objs.size + 1) :: us) := .cons rfl r
  have hl : (Value.ref (s.heap.objs.size + 1) :: us ++ []).length = ps.length := by
    have e := r2.length
    rw [F.len _ _ _ _ hq] at e
    rw [List.append_nil]
    exact e.symm
  refine wpAny_call (make_map (f := f) I.kIn M.makes M.init (beq_iff_eq.mp M.fn) (codeAny_mono (F.run _ X.stack _ _ ⟨Value.ref (s.heap.objs.size + 1) :: us, []⟩ (Value.ref (s.heap.objs.size + 1) :: us) _ _ (E σ) (hr.make C us [])
    (I2.env0.make C us []) (by have := hb _ (Value.ref (s.heap.objs.size + 1) :: us) I2.kIn hl; rw [List.append_nil] at this; exact this) r2 hq) fun r s' hq' => ?_))
  cases r with
  | error e => exact hx pins _ _ e s' I2 hq'
  | ok fl =>
    cases fl with
    | ret u =>
      obtain ⟨v, H', I3, rv, ev, q3⟩ := I2.after hq'
      subst ev
      exact ⟨rv, ⟨V.ref (s.heap.objs.size + 1), H', I3, rfl, q3⟩⟩
    | next => exact False.elim hq'
    | brk => exact False.elim hq'
    | cont => exact False.elim hq'
theorem pe_makeS (M : Mk X.K C f) (F : FnOk X.prog X.w X.K X.mg X.base CX k f fd ps sp) (hr : Room (k + 1) X.A) (hm : X.mg x = some (.ref C)) (hb : Binds X.K fd ps []) (hx : ∀ σ, PassesAt CX X σ (E σ))
    (ha : PA X (e :: es) t) (hg : Gl X x := by rfl) (hdb : (x == ("__debug__" : Str)) = false := by decide) (he : starEach (e :: es) X.env = (false, eval e X.env) :: starEach es X.env := by rfl) (hpl : (backTo pos (starEach es X.env)).any (·.1) = false := by rfl) :
    PE X (.Call (.Name x p) (e :: es) [] pos) (tMakeS C sp E t) := by
  refine ⟨fun pins s σ H Q I h => ?_⟩
  refine wpAny_Call_Name_kw (ld_glob I hg hm ?_ hdb)
  refine PySem.W.callWith_K (h₀ := X.base) I.ok.mod.kin M.kp (thn (ha.run pos pins s σ H _ I h) fun us s1 ⟨vs, H1, I1, r, q⟩ => ⟨I1.kIn, ?_⟩) he hpl
  exact run_makeS M F hr hb (hx σ) I1 r q
variable {c : Cn} {ρ : List Sl} {δ ι : Type} {i : Rp δ} {as : ι → List Sl} {Φr : Pt ι} {Φ : ι → Pt δ}
theorem e_make (M : Mk X.K C f) (F : FnOk X.prog X.w X.K X.mg X.base (L2.CX X.prog X.w) k f fd ps (spI X.K C as i Φ)) (hr : Room (k + 1) X.A) (hm : X.mg x = some (.ref C)) (hb : Binds X.K fd ps []) (tk : Takes X c.wsh)
    (ha : JA X c (e :: es) ρ as t Φr) (hg : Gl X x := by rfl) (hdb : (x == ("__debug__" : Str)) = false := by decide) (he : starEach (e :: es) X.env = (false, eval e X.env) :: starEach es X.env := by rfl) (hpl : (backTo pos (starEach es X.env)).any (·.1) = false := by rfl) :
    JE X c (.Call (.Name x p) (e :: es) [] pos) ρ i (tMakeS C (spI X.K C as i Φ) (fun σ => L2.WE c.wsh σ) t) (fun post ep => Φr (fun y => Φ y post ep) ep) := by
  refine ⟨pe_makeS M F hr hm hb (fun σ => passAt tk σ) ha.pe hg hdb he hpl, fun post ep φ G H σ w E Q k hx => ha.sem _ _ φ G H σ w E _ (fun G1 H1 vs y g1 r1 φ1 => ?_) hx⟩
  intro q dx h1 h2 h3
  refine ⟨G1, H1, q, dx, vs, y, post, ep, rfl, rfl, h1, h2, h3, g1.w.to0, r1, φ1, fun G' H' m g r p => ⟨rfl, ?_⟩, fun G' H' cls d e g r p => ?_⟩
  · exact k G' H' _ m (g1.trans (g.lift g1.w)) r p
  · exact hx G' H' cls d e (g1.trans (g.lift g1.w)) r p
end
/-! ### an __init__ -/
abbrev Fp := Fg → Hp → V → Prop
/-- a field that holds m -/
def fld {α : Type} (i : Rp α) (m : α) : Fp := fun K G v => i.rp K G v m
theorem FlAll.names {K : Fg} {G : Hp} {vs : List (Str × V)} {ps : List (Str × Fp)} (h : FlAll K G vs ps) : vs.map (·.1) = ps.map (·.1) := by
  induction h with
  | nil => rfl
  | cons _ _ ih => rw [List.map_cons, List.map_cons, ih]
theorem putF_new {f : Str} {v : V} : ∀ {vs : List (Str × V)}, ¬ f ∈ vs.map (·.1) → putF f v vs = vs ++ [(f, v)]
  | [], _ => rfl
  | (g, x) :: r, h => by
    have h1 : ¬ g = f := fun e => h (by rw [← e]; exact List.mem_cons_self)
    have h2 : ¬ f ∈ r.map (·.1) := fun m => h (List.mem_cons_of_mem _ m)
    show (if g = f then (g, v) :: r else (g, x) :: putF f v r) = _
    rw [if_neg h1, putF_new h2]
    rfl
theorem FlAll.snoc {K : Fg} {G : Hp} {vs : List (Str × V)} {ps : List (Str × Fp)} {f : Str} {v : V} {p : Fp} (h : FlAll K G vs ps) (hp : ∀ G', Ex G G' → p K G' v) : FlAll K G (vs ++ [(f, v)]) (ps ++ [(f, p)]) := by
  induction h with
  | nil => exact .cons hp .nil
  | cons h _ ih => exact .cons h ih
theorem FlAll.at {K : Fg} {G : Hp} {f : Str} {p : Fp} : ∀ {vs : List (Str × V)} {ps : List (Str × Fp)} {pre post : List (Str × Fp)}, FlAll K G vs ps → ps = pre ++ (f, p) :: post → ¬ f ∈ pre.map (·.1) → ∃ v, vs.lookup f = some v ∧ p K G v
  | _, _, [], post, h, e, _ => by
    cases h with
    | nil => cases e
    | cons h t =>
      injection e with e1 e2
      injection e1 with e3 e4
      subst e3
      subst e4
      exact ⟨_, by simp [List.lookup], h _ (Ex.refl _)⟩
  | _, _, (g, q) :: pre, post, h, e, hn => by
    cases h with
    | nil => cases e
    | @cons f' v' p' vs' ps' h t =>
      have e2 : ps' = pre ++ (f, p) :: post := (List.cons.inj e).2
      have e3 : f' = g := congrArg Prod.fst (List.cons.inj e).1
      have h1 : ¬ f = f' := fun z => hn (by rw [z, e3]; exact List.mem_cons_self)
      obtain ⟨v, h2, h3⟩ := FlAll.at t e2 fun m => hn (List.mem_cons_of_mem _ m)
      refine ⟨v, ?_, h3⟩
      have hb : (f == f') = false := beq_eq_false_iff_ne.mpr h1
      show (match f == f' with | true => some v' | false => List.lookup f vs') = some v
      rw [hb]
      exact h2
section
variable {X : Cx} {c : Cn} {ρ : List Sl} {S L β α : Type} {out : S → List Sl} {lp : L → List Sl} {i : Rp β} {iα : Rp α} {pos : Pos} {rest : List Stmt} {tr : TS} {e : Expr} {te : TE} {Φe : Pt α}
/-- self.f = e, a new field -/
theorem b_fld [Nonempty α] {C : Addr} {fs : List (Str × Fp)} (j : Nat) {x f : Str} {px pa : Pos} {Φr : α → Pt (Out S L β)} {l : Addr} (hρ : ρ[j]? = some (.oi l C fs)) (hC : Cls X.K C) (hA : NoAttr X.K C f) (hn : ¬ f ∈ fs.map (·.1)) (hz : fs.length < 1000) (he : JE X c e ρ iα te Φe)
    (hr : ∀ m, JB X c rest (ρ.set j (.oi l C (fs ++ [(f, fld iα m)]))) out lp i tr (Φr m)) (hN : X.N[j]? = some x := by rfl) (hv : Vis X.env.scope x := by first | exact Or.inl rfl | exact Or.inr (Or.inl rfl) | exact Or.inr (Or.inr rfl)) (hd : (x == ("__debug__" : Str)) = false := by decide) (hcd : (x == ("__classdict__" : Str)) = false := by decide)
    (hs : swapsWith e (some (.Attribute (.Name x px) f pa)) pos.line X.env = pure false := by rfl) :
    JB X c (.Assign [.Attribute (.Name x px) f pa] e pos :: rest) ρ out lp i (tSeq (sFld X.K (tVar j) te f) tr) (fun post ep => Φe (fun m => Φr m post ep) ep) := by
  refine ⟨pss_cons (ps_fld (pe_var hN hv hd hcd) he.pe hs) (hr (Classical.choice inferInstance)).pe, fun post ep φ G H σ g E D k hx => ?_⟩
  refine he.sem _ _ φ G H σ g.w E _ (fun G1 H1 v m g1 r p => ?_) (hx.at g)
  obtain ⟨dx, vs, h1, h2, h3, h4, h5, h6, h7, h8, h9, h10⟩ := (E.up g1).ok j _ hρ
  have nm := h3.names
  have hnv : ¬ f ∈ vs.map (·.1) := by rw [nm]; exact hn
  have hlen : vs.length < 1000 := by
    have := congrArg List.length nm
    simp at this
    omega
  refine ⟨.ref l, h1, l, C, dx, vs, rfl, h2, hC, hA, hlen, ?_⟩
  rw [putF_new hnv]
  have gm := gr_mut (o := .ins C dx (vs ++ [(f, v)])) (g.trans g1) h4 h5 h6 (some_ne h2)
  have es : ∀ a, c.rs.S H1 a → upd H1 l (.ins C dx (vs ++ [(f, v)])) a = H1 a := fun a ha => upd_ne fun z => h6 (z ▸ ha)
  have S' := (c.rs.loc g1.w.i es).2
  have ndl : dx ≠ l := fun z => by
    rw [z, h2] at h7
    cases h7
  refine (hr m).sem _ _ p G1 _ σ gm ((E.up g1).mut g1.w hρ rfl h1 h2 h6 (fun a z => by cases z) (x := .oi l C (fs ++ [(f, fld iα m)])) ⟨dx, vs ++ [(f, v)], rfl, upd_same, h3.snoc fun G' e => Rp.mono e r, h4, h5, fun z => h6 ((S' l).mp z), by rw [upd_ne ndl]; exact h7, h8, h9, fun z => h10 ((S' dx).mp z)⟩) D (k.up g1.g) hx
/-- self.f within an __init__ -/
theorem e_fldO {C : Addr} {fs pre post : List (Str × Fp)} {m : α} (j : Nat) {x f : Str} {px pa : Pos} {l : Addr} (hρ : ρ[j]? = some (.oi l C fs)) (hC : Cls X.K C) (hA : NoAttr X.K C f) (hf : fs = pre ++ (f, fld iα m) :: post) (hn : ¬ f ∈ pre.map (·.1)) (hN : X.N[j]? = some x := by rfl) (hv : Vis X.env.scope x := by first | exact Or.inl rfl | exact Or.inr (Or.inl rfl) | exact Or.inr (Or.inr rfl))
    (hd : (x == ("__debug__" : Str)) = false := by decide) (hcd : (x == ("__classdict__" : Str)) = false := by decide) (hb : attributeBase (.Name x px) f X.env (eval (.Name x px) X.env) = eval (.Name x px) X.env := by rfl) :
    JE X c (.Attribute (.Name x px) f pa) ρ iα (tFld X.K (tVar j) f) (fun post _ => post m) := by
  refine ⟨pe_fld (pe_var hN hv hd hcd) hb, fun post ep φ G H σ w E Q k hx => ?_⟩
  obtain ⟨dx, vs, h1, h2, h3, h4, h5, h6, h7, h8, h9, h10⟩ := E.ok j _ hρ
  obtain ⟨v, e1, e2⟩ := h3.at hf hn
  exact ⟨.ref l, h1, l, C, dx, vs, v, rfl, h2, hC, hA, e1, k G H v m (Gr.refl w) e2 φ⟩
end
section
variable {P : Program} {w : World} {K : Fg} {mg : Str → Option Value} {base : Heap} {x qual : Str} {params : Arguments} {body : List Stmt} {scope : Scope} {f : Addr} {fd : FuncData} {N ps : List Str} {k : Nat} {ι δ S : Type} {i : Rp δ}
/-- what is wanted of an __init__'s ends -/
def endI {S L : Type} (mk : S → δ) (post : δ → Prop) : Out S L Unit → Prop
  | .nx s => post (mk s)
  | _ => False
theorem fn_okI {dvs : List V} {kws : List (Str × V)} (F : FunD K x qual params body scope dvs kws f fd) (Sc : FnScope N ps scope) {C : Addr} {as : ι → List Sl} {Φ : ι → Pt δ} {Φb : ι → Pt (Out S Empty Unit)} {fs : S → List (Str × Fp)} {tail : List Sl} {mk : S → δ}
    (hps : ∀ y, (as y).length + 1 = ps.length)
    (hrep : ∀ (s : S) (G : Hp) (q dx : Addr) (vs : List (Str × V)), G q = some (.ins C dx vs) → FlAll K G vs (fs s) → i.rp K G (.ref q) (mk s))
    (hb : ∀ (y : ι) (q : Addr) (cdv : Value) (A : Around) (outer : List Env) (s : Shared) (H Hb G : Hp) (E : XK), Room k (A.deeper (envOfC qual scope s.heap.objs.size f cdv)) →
      ∃ tb, JB (Cf P w K mg base N qual scope f cdv A outer s H E) (Cc rs0 G Hb E) body (.oi q C [] :: as y ++ List.replicate (N.length - ps.length) .no) (fun s : S => .oi q C (fs s) :: tail) (fun z : Empty => nomatch z) rpN tb (Φb y))
    (hΦ : ∀ y post ep, Φ y post ep → Φb y (endI mk post) ep) : FnOk P w K mg base (L2.CX P w) (k + 1) f fd ps (spI K C as i Φ) := by
  refine F.ok Sc (fun vs H Q E h => ?_) (fun cdv A outer s H vs Q E hr h => ?_)
  · obtain ⟨G, Hb, q, dx, us, y, post, ep, rfl, _, _, _, _, _, ha, _⟩ := h
    show us.length + 1 = _
    rw [ha.len]
    exact hps y
  · obtain ⟨G, Hb, q, dx, us, y, post, ep, rfl, eH, h1, h2, h3, wd, ha, φ, hq, hx⟩ := h
    obtain ⟨tb, J⟩ := hb y q cdv A outer s H Hb G E hr
    have hqd : q ≠ dx := fun z => h3 z.symm
    have fr : ∀ a, Hb a = none → G a = none := fun a e => by
      cases e2 : G a with
      | none => rfl
      | some u =>
        have := wd.s a u e2
        rw [e] at this
        cases this
    have g1 := gr_newH (o := .own q) wd h2
    have hq1 : upd Hb dx (.own q) q = none := by rw [upd_ne hqd]; exact h1
    have g2 := gr_newH (o := .ins C dx []) g1.w hq1
    have g12 := g1.trans g2
    rw [← eH] at g12
    have hHq : H q = some (.ins C dx []) := by rw [eH]; exact upd_same
    have hHd : H dx = some (.own q) := by rw [eH, upd_ne h3]; exact upd_same
    refine ⟨tb, J.pe, J.sem _ _ (hΦ y post ep φ) G H _ g12 ?_ _ ⟨?_, ?_, ?_, ?_⟩ ?_⟩
    · have e := en_args (rs := rs0) (H0 := Hb) (H := H) ha (N.length - ps.length)
      have hst : L2.start N (V.ref q :: us) = some (.ref q) :: (us.map some ++ List.replicate (N.length - ps.length) none) := by
        unfold L2.start
        have : N.length - (V.ref q :: us).length = N.length - ps.length := by
          show N.length - (us.length + 1) = _
          rw [ha.len, hps y]
        rw [this]
        rfl
      rw [hst]
      refine ⟨by simpa using e.len, fun n z ez => ?_, fun n r z1 z2 l ne e1 e2 o1 o2 s1 s2 => ?_⟩
      · cases n with
        | zero =>
          have ez : some (Sl.oi q C []) = some z := ez
          cases ez
          exact ⟨dx, [], rfl, hHq, .nil, h1, fr q h1, fun z => z.elim, hHd, h2, fr dx h2, fun z => z.elim⟩
        | succ n => exact e.ok n z ez
      · have noOwn : ∀ (n : Nat) (z : Sl), (as y ++ List.replicate (N.length - ps.length) Sl.no)[n]? = some z → z.own = true → False := by
          intro n z ez oz
          have all : ∀ (vs : List V) (as : List Sl), ArgsOk K G vs as → ∀ x ∈ as, x.own = false := by
            intro vs as h
            induction h with
            | nil => intro x hx; cases hx
            | cons h _ ih =>
              intro x hx
              rcases List.mem_cons.mp hx with rfl | hx
              · cases h <;> rfl
              · exact ih x hx
          rcases List.mem_append.mp (List.mem_of_getElem? ez) with q | q
          · rw [all us _ ha z q] at oz
            cases oz
          · rw [List.eq_of_mem_replicate q] at oz
            cases oz
        cases n with
        | succ n => exact noOwn n z1 e1 o1
        | zero => cases r with
          | zero => exact ne rfl
          | succ r => exact noOwn r z2 e2 o2
    · intro G' H' σ' s' g _ E' p
      obtain ⟨dx', vs, k1, k2, k3, k4, k5, k6, k7, k8, k9, k10⟩ := E'.ok 0 _ rfl
      have gf := gr_frz g k4 k5 k6 k2
      exact hq _ H' (mk s') gf (hrep s' _ q dx' vs upd_same (k3.mono (Ex.new k5))) p
    · exact fun G' H' v b g _ r p => p.elim
    · exact fun G' H' σ' l g _ _ p => p.elim
    · exact fun G' H' σ' l g _ _ p => p.elim
    · exact fun G' H' σ' cls d e g r p => hx G' H' cls d e g r p
end
end Ty

set_option Elab.async false
set_option linter.all false
set_option maxRecDepth 100000
set_option maxHeartbeats 4000000
set_option autoImplicit false
/-! Ty, part F: more rules -/
namespace Ty
open PySem PySem.Spec L2

section
variable {X : Cx} {c : Cn} {ρ : List Sl} {α β γ : Type} {i : Rp α}
theorem i_lst {tg e : Expr} {te : TE} {Φ : Pt (List α)} (he : JE X c e ρ (rpL (i := i)) te Φ) : JI X c tg e ρ i (iList X.K te) (fun post ep => Φ (fun xs => xs.length ≤ sizeLine → post xs) ep) := i_list he (pi_list he.pe)
theorem i_tpl {tg e : Expr} {te : TE} {Φ : Pt (Tu α)} (he : JE X c e ρ (rpT (i := i)) te Φ) : JI X c tg e ρ i (iTup X.K te) (fun post ep => Φ (fun xs => xs.l.length ≤ sizeLine → post xs.l) ep) := i_tup he (pi_tup he.pe)
theorem i_rng1 {tg a : Expr} {p pos : Pos} {t : TA} {Φ : Pt (Int × Unit)} (hg : Gl X "range") (hm : X.mg "range" = none) (ha : JA X c [a] ρ (aCons rpI aNil) t Φ) (hs : starEach [a] X.env = [(false, eval a X.env)] := by rfl) :
    JI X c tg (.Call (.Name "range" p) [a] [] pos) ρ rpI (iRng1 t) (fun post ep => Φ (fun n => (-(2 ^ 62) ≤ n.1 ∧ n.1 < 2 ^ 62) ∧ post (rangeI 0 n.1.toNat)) ep) := i_range1 (es := [a]) (x := "") (p := pos) (pos := pos) ha (pi_range1 hg hm ha.pe hs)
theorem i_rng2 {tg a b : Expr} {p pos : Pos} {t : TA} {Φ : Pt (Int × Int × Unit)} (hg : Gl X "range") (hm : X.mg "range" = none) (ha : JA X c [a, b] ρ (aCons rpI (aCons rpI aNil)) t Φ) (hs : starEach [a, b] X.env = [(false, eval a X.env), (false, eval b X.env)] := by rfl) (hs2 : starEach [b] X.env = [(false, eval b X.env)] := by rfl) :
    JI X c tg (.Call (.Name "range" p) [a, b] [] pos) ρ rpI (iRng2 t) (fun post ep => Φ (fun n => (-(2 ^ 62) ≤ n.1 ∧ n.1 < 2 ^ 62 ∧ -(2 ^ 62) ≤ n.2.1 ∧ n.2.1 < 2 ^ 62) ∧ post (rangeI n.1 (n.2.1 - n.1).toNat)) ep) := i_range2 (es := [a, b]) (x := "") (p := pos) (pos := pos) ha (pi_range2 hg hm ha.pe hs hs2)

/-! ### slices -/
structure JO (X : Cx) (c : Cn) (e : Option Expr) (ρ : List Sl) (t : TO) (Φ : Pt (Option Int)) : Prop where
  pe : PO X e t
  sem : ∀ post ep, Φ post ep → ∀ G H σ, Wd c.rs G H → En X.K c.rs c.H0 G H σ ρ → ∀ Q : Option Int → Hp → Prop, (∀ G' H' m, Gr c.rs G H G' H' → post m → Q m H') → XOk X c G H σ ep → t σ H Q
theorem o_none : JO X c none ρ tNoPart (fun post _ => post none) := ⟨po_none, fun post ep φ G H σ w E Q k hx => k G H none (Gr.refl w) φ⟩
theorem o_some {e : Expr} {te : TE} {Φ : Pt Int} (he : JE X c e ρ rpI te Φ) : JO X c (some e) ρ (tPart te) (fun post ep => Φ (fun n => post (some n)) ep) :=
  ⟨po_some he.pe, fun post ep φ G H σ w E Q k hx => he.sem _ _ φ G H σ w E _ (fun G1 H1 v m g r p => ⟨m, r, k G1 H1 (some m) g p⟩) hx⟩
structure SlW (X : Cx) {α γ : Type} (iα : Rp α) (iγ : Rp γ) (r : V → Option Int → Option Int → Hp → VK → Prop) (Φ : α → Option Int → Option Int → Pt γ) : Prop where
  pe : SlR X r
  sem : ∀ (rs : Rs) (G H : Hp) (x : V) (a : α) (lo hi : Option Int) (post : γ → Prop) (ep : Exn → Prop) (Q : VK), Wd rs G H → iα.rp X.K G x a → Φ a lo hi post ep → (∀ G' H' z m, Gr rs G H G' H' → iγ.rp X.K G' z m → post m → Q z H') → r x lo hi H Q
theorem e_sl {iα : Rp α} {iγ : Rp γ} {r : V → Option Int → Option Int → Hp → VK → Prop} {Φ : α → Option Int → Option Int → Pt γ} {e : Expr} {lo hi : Option Expr} {te : TE} {tl th : TO} {Φa : Pt α} {Φl Φh : Pt (Option Int)} {p2 pos : Pos} (hs : SlW X iα iγ r Φ) (he : JE X c e ρ iα te Φa) (hl : JO X c lo ρ tl Φl) (hh : JO X c hi ρ th Φh) :
    JE X c (.Subscript e (.Slice lo hi none p2) pos) ρ iγ (tSl r te tl th) (fun post ep => Φa (fun a => Φl (fun l => Φh (fun h => Φ a l h post ep) ep) ep) ep) := by
  refine ⟨pe_slice hs.pe he.pe hl.pe hh.pe, fun post ep φ G H σ w E Q k hx => ?_⟩
  refine he.sem _ _ φ G H σ w E _ (fun G1 H1 v m g r φ1 => ?_) hx
  refine hl.sem _ _ φ1 G1 H1 σ g.w (E.up g) _ (fun G2 H2 m2 g2 φ2 => ?_) (hx.up g)
  refine hh.sem _ _ φ2 G2 H2 σ g2.w (E.up (g.trans g2)) _ (fun G3 H3 m3 g3 φ3 => ?_) (hx.up (g.trans g2))
  exact hs.sem _ _ _ _ _ _ _ _ _ _ g3.w (Rp.mono (g2.g.trans g3.g) r) φ3 fun G4 H4 z m g4 r4 p => k G4 H4 z m (((g.trans g2).trans g3).trans g4) r4 p
/-- a list's cut -/
def cutL {α : Type} (xs : List α) (lo hi : Option Int) : List α := (xs.drop (HT.sIx xs.length 0 lo)).take (HT.sIx xs.length xs.length hi - HT.sIx xs.length 0 lo)
theorem RpAll.drop {K : Fg} {G : Hp} : ∀ {vs : List V} {ms : List α} (n : Nat), RpAll i K G vs ms → RpAll i K G (vs.drop n) (ms.drop n)
  | _, _, 0, h => h
  | _, _, _ + 1, .nil => .nil
  | _, _, n + 1, .cons _ t => RpAll.drop n t
theorem RpAll.take {K : Fg} {G : Hp} : ∀ {vs : List V} {ms : List α} (n : Nat), RpAll i K G vs ms → RpAll i K G (vs.take n) (ms.take n)
  | _, _, 0, h => .nil
  | _, _, _ + 1, .nil => .nil
  | _, _, n + 1, .cons h t => .cons h (RpAll.take n t)
theorem RpAll.cut {K : Fg} {G : Hp} {vs : List V} {ms : List α} (h : RpAll i K G vs ms) (lo hi : Option Int) : RpAll i K G (cutV vs lo hi) (cutL ms lo hi) := by
  have e := h.length
  unfold cutV cutL
  rw [e]
  exact (h.drop _).take _
theorem sl_L : SlW X (rpL (i := i)) (rpL (i := i)) (rSlL X.K) (fun xs lo hi post _ => post (cutL xs lo hi)) :=
  ⟨sl_list, fun rs G H x a lo hi post ep Q w r φ k => by
    obtain ⟨l, vs, rfl, h1, h2, h3⟩ := r
    refine ⟨l, vs, rfl, SqL.of (w.s _ _ h1), fun p hp => ?_⟩
    have g := gr_new (o := .lst (cutV vs lo hi)) w hp
    exact k _ _ _ _ g ⟨p, _, rfl, upd_same, (h2.cut lo hi).mono g.g, Nat.le_trans (cutV_length _ _ _) h3⟩ φ⟩
theorem sl_S : SlW X rpS rpS rSlS (fun z lo hi post _ => z.length ≤ sizeLine ∧ post (cutS z lo hi)) :=
  ⟨sl_str, fun rs G H x a lo hi post ep Q w r φ k => ⟨a, r, φ.1, k G H _ _ (Gr.refl w) rfl φ.2⟩⟩
/-- a tuple's cut that is not the whole -/
theorem sl_T : SlW X (rpT (i := i)) (rpT (i := i)) (rSlT X.K) (fun xs lo hi post _ => ¬ (HT.sIx xs.l.length 0 lo = 0 ∧ HT.sIx xs.l.length xs.l.length hi = xs.l.length) ∧ post ⟨cutL xs.l lo hi⟩) :=
  ⟨sl_tup, fun rs G H x a lo hi post ep Q w r φ k => by
    obtain ⟨l, vs, rfl, h1, h2, h3⟩ := r
    have e := h2.length
    refine ⟨l, vs, rfl, w.s.st h1, by rw [e]; exact φ.1, fun p hp => ?_⟩
    have g := gr_new (o := .tup (cutV vs lo hi)) w hp
    exact k _ _ _ _ g ⟨p, _, rfl, SqT.of upd_same, (h2.cut lo hi).mono g.g, Nat.le_trans (cutV_length _ _ _) h3⟩ φ.2⟩

/-! ### in -/
class Flat (α : Type) [BEq α] (i : Rp α) where
  out : ∀ {K : Fg} {G : Hp} {x y : V} {a b : α}, i.rp K G x a → i.rp K G y b → flatV x = true ∧ eqV x y = (a == b)
instance : Flat Int rpI := ⟨fun {K G x y a b} h1 h2 => by
  obtain rfl : x = .int a := h1
  obtain rfl : y = .int b := h2
  exact ⟨rfl, rfl⟩⟩
instance : Flat Bool rpB := ⟨fun {K G x y a b} h1 h2 => by
  obtain rfl : x = .bl a := h1
  obtain rfl : y = .bl b := h2
  exact ⟨rfl, rfl⟩⟩
instance : Flat Str rpS := ⟨fun {K G x y a b} h1 h2 => by
  obtain rfl : x = .str a := h1
  obtain rfl : y = .str b := h2
  exact ⟨rfl, rfl⟩⟩
theorem flat_all [BEq α] [f : Flat α i] {K : Fg} {G : Hp} {x : V} {a : α} (hx : i.rp K G x a) : ∀ {vs : List V} {ms : List α}, RpAll i K G vs ms → vs.all flatV = true ∧ inV x vs = ms.any (fun m => m == a)
  | _, _, .nil => ⟨rfl, rfl⟩
  | _, _, .cons h t => by
    obtain ⟨h1, h2⟩ := f.out h hx
    obtain ⟨h3, h4⟩ := flat_all hx t
    refine ⟨by rw [List.all_cons, h1, h3]; rfl, ?_⟩
    unfold inV at h4 ⊢
    rw [List.any_cons, List.any_cons, h4, h2]
theorem in_L [BEq α] [f : Flat α i] : OpW X (compareOp .In) i (rpL (i := i)) rpB (rIn X.K false) (fun a xs post _ => post (xs.any fun m => m == a)) :=
  ⟨op_in_seq, fun rs G H x y a b post ep Q w hx hy φ k => by
    obtain ⟨l, vs, rfl, h1, h2, h3⟩ := hy
    obtain ⟨e1, e2⟩ := flat_all hx h2
    exact ⟨l, vs, rfl, .inl (SqL.of (w.s _ _ h1)), (f.out hx hx).1, e1, k G H _ _ (Gr.refl w) (by show V.bl _ = V.bl _; rw [e2]; rfl) φ⟩⟩
theorem in_T [BEq α] [f : Flat α i] : OpW X (compareOp .In) i (rpT (i := i)) rpB (rIn X.K false) (fun a xs post _ => post (xs.l.any fun m => m == a)) :=
  ⟨op_in_seq, fun rs G H x y a b post ep Q w hx hy φ k => by
    obtain ⟨l, vs, rfl, h1, h2, h3⟩ := hy
    obtain ⟨e1, e2⟩ := flat_all hx h2
    exact ⟨l, vs, rfl, .inr (w.s.st h1), (f.out hx hx).1, e1, k G H _ _ (Gr.refl w) (by show V.bl _ = V.bl _; rw [e2]; rfl) φ⟩⟩
theorem nin_L [BEq α] [f : Flat α i] : OpW X (compareOp .NotIn) i (rpL (i := i)) rpB (rIn X.K true) (fun a xs post _ => post (!xs.any fun m => m == a)) :=
  ⟨op_notIn_seq, fun rs G H x y a b post ep Q w hx hy φ k => by
    obtain ⟨l, vs, rfl, h1, h2, h3⟩ := hy
    obtain ⟨e1, e2⟩ := flat_all hx h2
    exact ⟨l, vs, rfl, .inl (SqL.of (w.s _ _ h1)), (f.out hx hx).1, e1, k G H _ _ (Gr.refl w) (by show V.bl _ = V.bl _; rw [e2]; rfl) φ⟩⟩
theorem nin_T [BEq α] [f : Flat α i] : OpW X (compareOp .NotIn) i (rpT (i := i)) rpB (rIn X.K true) (fun a xs post _ => post (!xs.l.any fun m => m == a)) :=
  ⟨op_notIn_seq, fun rs G H x y a b post ep Q w hx hy φ k => by
    obtain ⟨l, vs, rfl, h1, h2, h3⟩ := hy
    obtain ⟨e1, e2⟩ := flat_all hx h2
    exact ⟨l, vs, rfl, .inr (w.s.st h1), (f.out hx hx).1, e1, k G H _ _ (Gr.refl w) (by show V.bl _ = V.bl _; rw [e2]; rfl) φ⟩⟩

/-! ### data: == -/
class Dat (α : Type) (i : Rp α) where
  enc : α → PyData
  ok : α → Prop
  dep : Nat
  dp : ∀ {K : Fg} {G : Hp} {v : V} {m : α}, i.rp K G v m → Dp K G v (enc m)
  lay : ∀ {m : α}, ok m → PyData.canLay0 (enc m) = true
  hdep : ∀ m : α, PyData.depth (enc m) ≤ dep
/-- == of such data is = -/
class DatE (α : Type) [DecidableEq α] (i : Rp α) [d : Dat α i] : Prop where
  eqv : ∀ a b : α, PyData.eqv (d.enc a) (d.enc b) = decide (a = b)
instance : Dat Int rpI := ⟨fun n => .int n, fun _ => True, 0, fun {K G v m} h => by
  obtain rfl : v = .int m := h
  exact .int m, fun _ => rfl, fun m => by simp [PyData.depth]⟩
instance : Dat Bool rpB := ⟨fun n => .bool n, fun _ => True, 0, fun {K G v m} h => by
  obtain rfl : v = .bl m := h
  exact .bl m, fun _ => rfl, fun m => by simp [PyData.depth]⟩
instance : Dat Str rpS := ⟨fun n => .str n, fun s => PyData.strOk s = true, 0, fun {K G v m} h => by
  obtain rfl : v = .str m := h
  exact .str m, fun h => by simpa [PyData.canLay0] using h, fun m => by simp [PyData.depth]⟩
end
theorem dpAll {α : Type} {i : Rp α} [d : Dat α i] {K : Fg} {G : Hp} : ∀ {vs : List V} {ms : List α}, RpAll i K G vs ms → DpAll K G vs (ms.map d.enc)
  | _, _, .nil => .nil
  | _, _, .cons h t => .cons (d.dp h) (dpAll t)
theorem layAll {α : Type} {i : Rp α} [d : Dat α i] : ∀ {ms : List α}, (∀ m ∈ ms, d.ok m) → PyData.canLayAll0 (ms.map d.enc) = true
  | [], _ => by simp [PyData.canLayAll0]
  | m :: ms, h => by
    rw [List.map_cons]
    simp only [PyData.canLayAll0, Bool.and_eq_true]
    exact ⟨d.lay (h m List.mem_cons_self), layAll fun x hx => h x (List.mem_cons_of_mem _ hx)⟩
theorem depAll {α : Type} {i : Rp α} [d : Dat α i] : ∀ ms : List α, PyData.depthAll (ms.map d.enc) ≤ d.dep
  | [] => by simp [PyData.depthAll]
  | m :: ms => by
    rw [List.map_cons]
    simp only [PyData.depthAll]
    exact Nat.max_le.mpr ⟨d.hdep m, depAll ms⟩
theorem eqvAll {α : Type} [DecidableEq α] {i : Rp α} [d : Dat α i] [e : DatE α i] : ∀ as bs : List α, PyData.eqvAll (as.map d.enc) (bs.map d.enc) = decide (as = bs)
  | [], [] => by simp [PyData.eqvAll]
  | [], b :: bs => by simp [PyData.eqvAll]
  | a :: as, [] => by simp [PyData.eqvAll]
  | a :: as, b :: bs => by
    rw [List.map_cons, List.map_cons]
    simp only [PyData.eqvAll]
    rw [e.eqv, eqvAll as bs]
    by_cases h1 : a = b
    · by_cases h2 : as = bs
      · simp [h1, h2]
      · simp [h1, h2]
    · simp [h1]
instance datL {α : Type} {i : Rp α} [d : Dat α i] : Dat (List α) (rpL (i := i)) := ⟨fun xs => .list (xs.map d.enc), fun xs => ∀ m ∈ xs, d.ok m, d.dep + 1, fun {K G v m} h => by
  obtain ⟨a, vs, rfl, h1, h2, _⟩ := h
  exact .lst (SqL.of h1) (dpAll h2), fun h => by simpa only [PyData.canLay0] using layAll h, fun m => by
  simp only [PyData.depth]
  exact Nat.succ_le_succ (depAll m)⟩
instance datT {α : Type} {i : Rp α} [d : Dat α i] : Dat (Tu α) (rpT (i := i)) := ⟨fun xs => .tuple (xs.l.map d.enc), fun xs => ∀ m ∈ xs.l, d.ok m, d.dep + 1, fun {K G v m} h => by
  obtain ⟨a, vs, rfl, h1, h2, _⟩ := h
  exact .tup h1 (dpAll h2), fun h => by simpa only [PyData.canLay0] using layAll h, fun m => by
  simp only [PyData.depth]
  exact Nat.succ_le_succ (depAll m.l)⟩
instance dat2 {α β : Type} {i : Rp α} {j : Rp β} [d : Dat α i] [e : Dat β j] : Dat (α × β) (rp2 (i := i) (j := j)) := ⟨fun p => .tuple [d.enc p.1, e.enc p.2], fun p => d.ok p.1 ∧ e.ok p.2, max d.dep e.dep + 1, fun {K G v m} h => by
  obtain ⟨a, x, y, rfl, h1, h2, h3⟩ := h
  exact .tup h1 (.cons (d.dp h2) (.cons (e.dp h3) .nil)), fun {m} h => by
  simp only [PyData.canLay0, PyData.canLayAll0, d.lay h.1, e.lay h.2, Bool.and_self], fun m => by
  simp only [PyData.depth, PyData.depthAll]
  have := d.hdep m.1
  have := e.hdep m.2
  omega⟩
instance : DatE Int rpI := ⟨fun a b => by
  show PyData.eqv (.int a) (.int b) = _
  simp [PyData.eqv, Bool.beq_eq_decide_eq]⟩
instance : DatE Bool rpB := ⟨fun a b => by
  show PyData.eqv (.bool a) (.bool b) = _
  simp [PyData.eqv, Bool.beq_eq_decide_eq]⟩
instance : DatE Str rpS := ⟨fun a b => by
  show PyData.eqv (.str a) (.str b) = _
  simp [PyData.eqv, Bool.beq_eq_decide_eq]⟩
instance {α : Type} [DecidableEq α] {i : Rp α} [d : Dat α i] [e : DatE α i] : DatE (List α) (rpL (i := i)) := ⟨fun a b => by
  show PyData.eqv (.list _) (.list _) = _
  simp only [PyData.eqv]
  exact eqvAll a b⟩
instance {α : Type} [DecidableEq α] : DecidableEq (Tu α) := fun a b => match a, b with
  | ⟨x⟩, ⟨y⟩ => if h : x = y then isTrue (by rw [h]) else isFalse fun q => h (Tu.mk.inj q)
instance {α : Type} [DecidableEq α] {i : Rp α} [d : Dat α i] [e : DatE α i] : DatE (Tu α) (rpT (i := i)) := ⟨fun a b => by
  show PyData.eqv (.tuple _) (.tuple _) = _
  simp only [PyData.eqv]
  rw [eqvAll]
  obtain ⟨x⟩ := a
  obtain ⟨y⟩ := b
  by_cases h : x = y <;> simp [h]⟩
instance {α β : Type} [DecidableEq α] [DecidableEq β] {i : Rp α} {j : Rp β} [d : Dat α i] [e : Dat β j] [d' : DatE α i] [e' : DatE β j] : DatE (α × β) (rp2 (i := i) (j := j)) := ⟨fun a b => by
  show PyData.eqv (.tuple [_, _]) (.tuple [_, _]) = _
  simp only [PyData.eqv, PyData.eqvAll, d'.eqv, e'.eqv]
  obtain ⟨x, y⟩ := a
  obtain ⟨z, u⟩ := b
  by_cases h1 : x = z <;> by_cases h2 : y = u <;> simp [h1, h2]⟩
section
variable {X : Cx} {α : Type} {i : Rp α}
theorem shaped_of [d : Dat α i] {m : α} (h : d.ok m) (hd : d.dep ≤ 64) : SeqAt.shaped (d.enc m) = true := by
  unfold SeqAt.shaped
  rw [d.lay h, decide_eq_true (Nat.le_trans (d.hdep m) hd)]
  rfl
theorem eq_D [DecidableEq α] [d : Dat α i] [e : DatE α i] (hu : X.A.units + 64 < cLine) (hd : d.dep ≤ 64 := by decide) : OpW X (compareOp .Eq) i i rpB (rEqD X.K) (fun a b post _ => d.ok a ∧ d.ok b ∧ post (decide (a = b))) :=
  ⟨op_eqD hu, fun rs G H x y a b post ep Q w hx hy φ k => by
    refine ⟨d.enc a, d.enc b, ?_, ?_, shaped_of φ.1 hd, shaped_of φ.2.1 hd, k G H _ _ (Gr.refl w) (by rw [e.eqv]; rfl) φ.2.2⟩
    · exact d.dp (Rp.mono w.s hx)
    · exact d.dp (Rp.mono w.s hy)⟩
theorem ne_D [DecidableEq α] [d : Dat α i] [e : DatE α i] (hu : X.A.units + 64 < cLine) (hd : d.dep ≤ 64 := by decide) : OpW X (compareOp .NotEq) i i rpB (rNeD X.K) (fun a b post _ => d.ok a ∧ d.ok b ∧ post (!decide (a = b))) :=
  ⟨op_neD hu, fun rs G H x y a b post ep Q w hx hy φ k => by
    refine ⟨d.enc a, d.enc b, ?_, ?_, shaped_of φ.1 hd, shaped_of φ.2.1 hd, k G H _ _ (Gr.refl w) (by rw [e.eqv]; rfl) φ.2.2⟩
    · exact d.dp (Rp.mono w.s hx)
    · exact d.dp (Rp.mono w.s hy)⟩
/-! ### built-ins over lists -/
theorem mapI {K : Fg} {G : Hp} : ∀ {vs : List V} {ms : List Int}, RpAll rpI K G vs ms → vs = ms.map V.int
  | _, _, .nil => rfl
  | _, _, .cons h t => by
    obtain rfl := h
    rw [mapI t]
    rfl
theorem mapB {K : Fg} {G : Hp} : ∀ {vs : List V} {ms : List Bool}, RpAll rpB K G vs ms → vs = ms.map V.bl
  | _, _, .nil => rfl
  | _, _, .cons h t => by
    obtain rfl := h
    rw [mapB t]
    rfl
theorem max_L (hc : X.calm = true) : CallW X (.builtin "max") (aCons (rpL (i := rpI)) aNil) rpI (rMax X.K) (fun x post _ => 0 < x.1.length ∧ ∀ m, m ∈ x.1 → (∀ y ∈ x.1, y ≤ m) → post m) :=
  ⟨cr_max hc, fun rs G H vs x post ep Q w ha φ k => by
    obtain ⟨v, rfl, l, us, rfl, h1, h2, h3⟩ := one1 ha
    have e := mapI h2
    subst e
    exact ⟨l, x.1, rfl, SqL.of (w.s _ _ h1), φ.1, fun m hm hy => k G H _ _ (Gr.refl w) rfl (φ.2 m hm hy)⟩⟩
theorem min_L (hc : X.calm = true) : CallW X (.builtin "min") (aCons (rpL (i := rpI)) aNil) rpI (rMin X.K) (fun x post _ => 0 < x.1.length ∧ ∀ m, m ∈ x.1 → (∀ y ∈ x.1, m ≤ y) → post m) :=
  ⟨cr_min hc, fun rs G H vs x post ep Q w ha φ k => by
    obtain ⟨v, rfl, l, us, rfl, h1, h2, h3⟩ := one1 ha
    have e := mapI h2
    subst e
    exact ⟨l, x.1, rfl, SqL.of (w.s _ _ h1), φ.1, fun m hm hy => k G H _ _ (Gr.refl w) rfl (φ.2 m hm hy)⟩⟩
theorem sum_L (hc : X.calm = true) : CallW X (.builtin "sum") (aCons (rpL (i := rpI)) aNil) rpI (rSum X.K) (fun x post _ => post x.1.sum) :=
  ⟨cr_sum hc, fun rs G H vs x post ep Q w ha φ k => by
    obtain ⟨v, rfl, l, us, rfl, h1, h2, h3⟩ := one1 ha
    have e := mapI h2
    subst e
    exact ⟨l, x.1, rfl, SqL.of (w.s _ _ h1), k G H _ _ (Gr.refl w) rfl φ⟩⟩
theorem all_L (hc : X.calm = true) : CallW X (.builtin "all") (aCons (rpL (i := rpB)) aNil) rpB (rAll X.K) (fun x post _ => post (x.1.all id)) :=
  ⟨cr_all hc, fun rs G H vs x post ep Q w ha φ k => by
    obtain ⟨v, rfl, l, us, rfl, h1, h2, h3⟩ := one1 ha
    have e := mapB h2
    subst e
    exact ⟨l, x.1, rfl, SqL.of (w.s _ _ h1), k G H _ _ (Gr.refl w) rfl φ⟩⟩
theorem any_L (hc : X.calm = true) : CallW X (.builtin "any") (aCons (rpL (i := rpB)) aNil) rpB (rAny X.K) (fun x post _ => post (x.1.any id)) :=
  ⟨cr_any hc, fun rs G H vs x post ep Q w ha φ k => by
    obtain ⟨v, rfl, l, us, rfl, h1, h2, h3⟩ := one1 ha
    have e := mapB h2
    subst e
    exact ⟨l, x.1, rfl, SqL.of (w.s _ _ h1), k G H _ _ (Gr.refl w) rfl φ⟩⟩
abbrev rListOf (K : Fg) : List V → Hp → VK → Prop := fun xs H Q => ∃ p ys, xs = [.ref p] ∧ (SqL K H p ys ∨ SqT K H p ys) ∧ ∀ l, H l = none → Q (.ref l) (upd H l (.lst ys))
abbrev rTupOf (K : Fg) : List V → Hp → VK → Prop := fun xs H Q => ∃ p ys, xs = [.ref p] ∧ ((SqL K H p ys ∧ ∀ l, H l = none → Q (.ref l) (upd H l (.tup ys))) ∨ (SqT K H p ys ∧ Q (.ref p) H))
theorem list_L : CallW X (.type "list") (aCons (rpL (i := i)) aNil) (rpL (i := i)) (rListOf X.K) (fun x post _ => post x.1) :=
  ⟨call_list_of, fun rs G H vs x post ep Q w ha φ k => by
    obtain ⟨v, rfl, l, us, rfl, h1, h2, h3⟩ := one1 ha
    refine ⟨l, us, rfl, .inl (SqL.of (w.s _ _ h1)), fun p hp => ?_⟩
    have g := gr_new (o := .lst us) w hp
    exact k _ _ _ _ g ⟨p, us, rfl, upd_same, h2.mono g.g, h3⟩ φ⟩
theorem list_T : CallW X (.type "list") (aCons (rpT (i := i)) aNil) (rpL (i := i)) (rListOf X.K) (fun x post _ => post x.1.l) :=
  ⟨call_list_of, fun rs G H vs x post ep Q w ha φ k => by
    obtain ⟨v, rfl, l, us, rfl, h1, h2, h3⟩ := one1 ha
    refine ⟨l, us, rfl, .inr (w.s.st h1), fun p hp => ?_⟩
    have g := gr_new (o := .lst us) w hp
    exact k _ _ _ _ g ⟨p, us, rfl, upd_same, h2.mono g.g, h3⟩ φ⟩
theorem tuple_L : CallW X (.type "tuple") (aCons (rpL (i := i)) aNil) (rpT (i := i)) (rTupOf X.K) (fun x post _ => post ⟨x.1⟩) :=
  ⟨call_tuple_of, fun rs G H vs x post ep Q w ha φ k => by
    obtain ⟨v, rfl, l, us, rfl, h1, h2, h3⟩ := one1 ha
    refine ⟨l, us, rfl, .inl ⟨SqL.of (w.s _ _ h1), fun p hp => ?_⟩⟩
    have g := gr_new (o := .tup us) w hp
    exact k _ _ _ _ g ⟨p, us, rfl, SqT.of upd_same, h2.mono g.g, h3⟩ φ⟩
theorem tuple_T : CallW X (.type "tuple") (aCons (rpT (i := i)) aNil) (rpT (i := i)) (rTupOf X.K) (fun x post _ => post x.1) :=
  ⟨call_tuple_of, fun rs G H vs x post ep Q w ha φ k => by
    obtain ⟨v, rfl, l, us, rfl, h1, h2, h3⟩ := one1 ha
    exact ⟨l, us, rfl, .inr ⟨w.s.st h1, k G H _ _ (Gr.refl w) ⟨l, us, rfl, h1, h2, h3⟩ φ⟩⟩⟩
end
/-! ### more statements -/
section
variable {X : Cx} {c : Cn} {ρ : List Sl} {S L β α γ : Type} {out : S → List Sl} {lp : L → List Sl} {i : Rp β} {iα : Rp α} {iγ : Rp γ} {pos : Pos} {rest : List Stmt} {tr : TS} {e : Expr} {te : TE} {Φe : Pt α}
theorem b_doc {x : Str} {j : Nat} {p1 p2 : Pos} {Φr : Pt (Out S L β)} (hr : JB X c rest ρ out lp i tr Φr) : JB X c (.Expr (.Constant (.str x) j p1) p2 :: rest) ρ out lp i (tSeq tNext tr) Φr :=
  ⟨pss_cons ps_doc hr.pe, fun post ep φ G H σ g E D k hx => hr.sem _ _ φ G H σ g E D k hx⟩
theorem b_retN : JB X c (.Return none pos :: rest) ρ out lp rpN (tSeq tRetN tNever) (fun post _ => post (.rt ())) :=
  ⟨pss_cons ps_retN pss_never, fun post ep φ G H σ g E D k hx => k.rt G H .non () g (Ex.refl _) rfl φ⟩
/-- an if whose ways all leave -/
theorem b_ifE2 {t : Expr} {b1 b2 : List Stmt} {tt : TT} {t1 t2 : TS} {Φt : Pt Bool} {Φ1 Φ2 : Pt (Out Empty L β)} (ht : JT X c t ρ tt Φt) (h1 : JB X c b1 ρ (fun z : Empty => nomatch z) lp i t1 Φ1) (h2 : JB X c b2 ρ (fun z : Empty => nomatch z) lp i t2 Φ2) :
    JB X c (.If t b1 b2 pos :: rest) ρ out lp i (tSeq (tIfS tt t1 t2) tNever) (fun post ep => Φt (fun k => if k = true then Φ1 (seqP (fun z : Empty => nomatch z) post ep) ep else Φ2 (seqP (fun z : Empty => nomatch z) post ep) ep) ep) := by
  refine ⟨pss_cons (ps_if ht.pe h1.pe h2.pe) pss_never, fun post ep φ G H σ g E D k hx => ?_⟩
  refine ht.sem _ _ φ G H σ g.w E _ (fun G1 H1 m g1 p => ?_) (hx.at g)
  have k := k.up g1.g
  have ends : EndsOk X c G1 i (fun z : Empty => nomatch z) lp (seqP (fun z : Empty => nomatch z) post ep) { D with nx := tNever D } :=
    ⟨fun G' H' σ' s => Empty.elim s, fun G' H' v b g' x' r p' => k.rt G' H' v b g' x' r p', fun G' H' σ' l g' x' E' p' => k.bk G' H' σ' l g' x' E' p', fun G' H' σ' l g' x' E' p' => k.ct G' H' σ' l g' x' E' p'⟩
  cases m with
  | true => exact h1.sem _ _ p G1 H1 σ (g.trans g1) (E.up g1) _ ends hx
  | false => exact h2.sem _ _ p G1 H1 σ (g.trans g1) (E.up g1) _ ends hx
/-- a, b = e1, e2: two local names -/
theorem b_par [Nonempty α] [Nonempty γ] (j1 j2 : Nat) {x y : Str} {a b : Expr} {px py pt : Pos} {kt k2 : Nat} {pt2 : Pos} {ta : TA} {Φa : Pt (α × γ × Unit)} {Φr : α → γ → Pt (Out S L β)} (hN : X.N.Nodup) (ha : JA X c [a, b] ρ (aCons iα (aCons iγ aNil)) ta Φa)
    (hr : ∀ m n, JB X c rest ((ρ.set j1 (.val iα m)).set j2 (.val iγ n)) out lp i tr (Φr m n)) (hc : X.calm = true := by rfl) (hi : X.N[j1]? = some x := by rfl) (hj : X.N[j2]? = some y := by rfl) (hij : j1 ≠ j2 := by decide) (hx : X.env.scope.names.lookup x = some .local := by rfl) (hy : X.env.scope.names.lookup y = some .local := by rfl)
    (hw : swappedStores [.Tuple [.Name x px, .Name y py] kt pt] (.Tuple [a, b] k2 pt2) X.env = pure (some [x, y]) := by rfl) (hs : swapsWithSole [.Tuple [.Name x px, .Name y py] kt pt] (.Tuple [a, b] k2 pt2) pos.line X.env = pure false := by rfl) :
    JB X c (.Assign [.Tuple [.Name x px, .Name y py] kt pt] (.Tuple [a, b] k2 pt2) pos :: rest) ρ out lp i (tSeq (tPar j1 j2 ta) tr) (fun post ep => Φa (fun z => Φr z.1 z.2.1 post ep) ep) := by
  refine ⟨pss_cons (ps_par hc hN hi hj hij hx hy ha.pe hw hs) (hr (Classical.choice inferInstance) (Classical.choice inferInstance)).pe, fun post ep φ G H σ g E D k hxx => ?_⟩
  refine ha.sem _ _ φ G H σ g.w E _ (fun G1 H1 vs z g1 r p => ?_) (hxx.at g)
  obtain ⟨v, u, rfl, h1, h2⟩ := two2 r
  refine ⟨v, u, rfl, (hr z.1 z.2.1).sem _ _ p G1 H1 _ (g.trans g1) ?_ D (k.up g1.g) hxx⟩
  exact (((E.up g1).set (x := .val iα z.1) ⟨v, rfl, h1⟩ rfl).set (x := .val iγ z.2.1) ⟨u, rfl, h2⟩ rfl)
end
end Ty

set_option Elab.async false
set_option linter.all false
set_option maxRecDepth 100000
set_option maxHeartbeats 4000000
set_option autoImplicit false
/-! Ty, part G: operators, len, truth, repr, in, == of own classes; isinstance -/
namespace Ty
open PySem PySem.Spec PyProof.Rows L2

/-- such values are instances of the class at C -/
def InsR (K : Fg) {α : Type} (i : Rp α) (C : Addr) : Prop := ∀ (G : Hp) (v : V) (m : α), i.rp K G v m → ∃ p dx fs, v = .ref p ∧ G p = some (.ins C dx fs)
def IsI (H : Hp) (C : Addr) (x : V) : Prop := ∃ p dx fs, x = .ref p ∧ H p = some (.ins C dx fs)
theorem InsR.is {K : Fg} {α : Type} {i : Rp α} {C : Addr} (h : InsR K i C) {G H : Hp} {v : V} {m : α} (w : Ex G H) (r : i.rp K G v m) : IsI H C v := by
  obtain ⟨p, dx, fs, h1, h2⟩ := h G v m r
  exact ⟨p, dx, fs, h1, w _ _ h2⟩
section
variable {X : Cx} {k : Nat} {f : Addr} {fd : FuncData} {ps : List Str} {sp : Sp} {pins : List (Addr × Obj)} {σ : L2.St} {H : Hp} {s : Shared} {us : List Value} {vs : List V} {Q : VK} {A : Around}
/-- an own method that lets no error out, called by the machine -/
theorem own_run (hr : Room k A) (hA : A.frames = X.A.frames) (F : FnOk X.prog X.w X.K X.mg X.base (L2.CX X.prog X.w) k f fd ps sp) (hb : Binds X.K fd ps []) (I : Inv X pins σ H s) (r : Vals vs us) (h : sp vs H Q E0) :
    wpAny (model X.prog X.w) A (call (.ref f) us) (EP X pins σ Q) X.xe s := by
  have hl := F.len _ _ _ _ h
  have e0 : Env0 X.prog X.w X.K X.mg X.base A X.stack s H := by
    have e := I.env0
    exact ⟨by rw [hA]; exact e.frames, e.mod, e.bs, e.bsz, e.funs, e.frf, e.hok, e.bare⟩
  have hl2 : us.length = ps.length := by rw [← r.length]; exact hl
  refine wpAny_call (codeAny_mono (F.run A X.stack s H ⟨us, []⟩ us vs Q E0 hr e0 (by
    have := hb s us I.kIn (by simpa using hl2)
    simpa using this) r h) fun r s' hq => ?_)
  cases r with
  | error e => exact passL pins σ H s e s' I hq
  | ok fl =>
    cases fl with
    | ret w => exact I.after hq
    | next => exact False.elim hq
    | brk => exact False.elim hq
    | cont => exact False.elim hq
theorem back_of {v : Value} {s' : Shared} (h : EP X pins σ Q v s') : PySem.W.CmpBack (EP X pins σ Q) v s' := by
  have h' := h
  obtain ⟨z, H', I', r, q⟩ := h
  cases v <;> first | exact h' | (cases z <;> first | (obtain ⟨_, e⟩ := r; cases e) | cases r)
/-- the instance at an address -/
theorem inst_at {C dx : Addr} {p : Addr} {fs : List (Str × V)} (I : Inv X pins σ H s) (h : H p = some (.ins C dx fs)) : ∃ ox od, PySem.W.InstAt s.heap p ox C (some od) := by
  obtain ⟨mA, J, _⟩ := ins_get I.hok h
  obtain ⟨od, J, _⟩ := J.look
  exact ⟨_, od, J⟩
end
section
variable {X : Cx} {k : Nat} {C f : Addr} {fd : FuncData} {ps : List Str} {α β γ : Type} {iα : Rp α} {iβ : Rp β} {iγ : Rp γ}
abbrev as1 {α : Type} (iα : Rp α) : α × Unit → List Sl := aCons iα aNil
abbrev as2 {α β : Type} (iα : Rp α) (iβ : Rp β) : α × β × Unit → List Sl := aCons iα (aCons iβ aNil)
/-- a promise used where no error may come -/
theorem sp_use {K : Fg} {rs : Rs} {ι : Type} {as : ι → List Sl} {i : Rp γ} {Φ : ι → Pt γ} {G H : Hp} {vs : List V} {x : ι} {post : γ → Prop} {Q : VK} (w : Wd rs G H) (a : ArgsOk K G vs (as x)) (φ : Φ x post (fun _ => False)) (k : ∀ G' H' z m, Gr rs G H G' H' → i.rp K G' z m → post m → Q z H') : spOf K rs0 as i Φ vs H Q E0 :=
  ⟨G, x, post, fun _ => False, w.to0, a, φ, fun G' H' v m g r p => k G' H' v m (g.lift w) r p, fun _ _ _ _ _ _ _ z => z.elim⟩
def rOwn2 (C : Addr) (P : V → Hp → Prop) (sp : Sp) : R2 := fun x y H Q => IsI H C x ∧ P y H ∧ sp [x, y] H Q E0
theorem opw_own {op : Operator} {Φ : α × β × Unit → Pt γ} (hα : InsR X.K iα C) (hβ : InsR X.K iβ C) (F : FnOk X.prog X.w X.K X.mg X.base (L2.CX X.prog X.w) k f fd ps (spOf X.K rs0 (as2 iα iβ) iγ Φ)) (hb : Binds X.K fd ps []) (hr : Room k X.A)
    (hsf : PySem.W.selfFirst X.K C = true) (hs : PySem.W.findIn X.K (.ref C) (PySem.dunder op.info.2) = some (some (.ref f))) (hf : PySem.W.isFn X.K (.ref f) = true) :
    OpW X (binaryOp op) iα iβ iγ (rOwn2 C (fun y H => IsI H C y) (spOf X.K rs0 (as2 iα iβ) iγ Φ)) (fun a b post _ => Φ (a, b, ()) post (fun _ => False)) := by
  refine ⟨fun pins s σ H x y v u Q I rx ry h => ?_, fun rs G H x y a b post ep Q w hx hy φ k => ⟨hα.is w.s hx, hβ.is w.s hy, sp_use w (.cons (.val hx) (.cons (.val hy) .nil)) φ k⟩⟩
  obtain ⟨⟨p, dx, fs, rfl, h1⟩, ⟨q, dy, gs, rfl, h2⟩, h⟩ := h
  cases rx
  cases ry
  obtain ⟨ox, od, J⟩ := inst_at I h1
  obtain ⟨oy, oe, J'⟩ := inst_at I h2
  obtain ⟨m, hF⟩ := I.fr
  refine PySem.W.binop_K hF I.ok.mod.kin J J'.type hsf hs hf ?_
  exact thn (own_run (vs := [.ref p, .ref q]) hr rfl F hb I (.cons rfl (.cons rfl .nil)) h) fun v s' z => back_of z
/-- .. by a whole number -/
theorem opw_ownI {op : Operator} {Φ : α × Int × Unit → Pt γ} {fo ro rc : Option Value} (hα : InsR X.K iα C) (F : FnOk X.prog X.w X.K X.mg X.base (L2.CX X.prog X.w) k f fd ps (spOf X.K rs0 (as2 iα rpI) iγ Φ)) (hb : Binds X.K fd ps []) (hr : Room k X.A)
    (hsf : PySem.W.selfFirst X.K C = true) (hs : PySem.W.findIn X.K (.ref C) (PySem.dunder op.info.2) = some (some (.ref f))) (hf : PySem.W.isFn X.K (.ref f) = true) (hrc : PySem.W.findIn X.K (.ref C) (PySem.dunderR op.info.2) = some rc) (hp : rc = none ∨ ∃ g : Addr, rc = some (.ref g))
    (h1 : PySem.W.findIn X.K (.type "int") (PySem.dunder op.info.2) = some fo) (h2 : PySem.W.findIn X.K (.type "int") (PySem.dunderR op.info.2) = some ro) (hsub : PySem.W.subIn X.K (.type "int") (.ref C) = some false) :
    OpW X (binaryOp op) iα rpI iγ (rOwn2 C (fun y _ => ∃ n, y = .int n) (spOf X.K rs0 (as2 iα rpI) iγ Φ)) (fun a b post _ => Φ (a, b, ()) post (fun _ => False)) := by
  refine ⟨fun pins s σ H x y v u Q I rx ry h => ?_, fun rs G H x y a b post ep Q w hx hy φ k => ⟨hα.is w.s hx, ⟨b, hy⟩, sp_use w (.cons (.val hx) (.cons (.val hy) .nil)) φ k⟩⟩
  obtain ⟨⟨p, dx, fs, rfl, hp1⟩, ⟨n, rfl⟩, h⟩ := h
  cases rx
  obtain ⟨t, rfl⟩ := ry
  obtain ⟨ox, od, J⟩ := inst_at I hp1
  obtain ⟨m, hF⟩ := I.fr
  refine PySem.W.ksp_binT (T := "int") hF I.ok.mod.kin J rfl hsf hs hf hrc hp h1 h2 hsub ?_
  exact thn (own_run (vs := [.ref p, .int n]) hr rfl F hb I (.cons rfl (.cons ⟨t, rfl⟩ .nil)) h) fun v s' z => back_of z
/-- own == (and the like): the left one is asked -/
theorem cmpw_own {op : CmpOp} {Φ : α × β × Unit → Pt γ} (hop : ∀ v u, compareOp op v u = richCompare op v u) (hα : InsR X.K iα C) (hβ : InsR X.K iβ C) (F : FnOk X.prog X.w X.K X.mg X.base (L2.CX X.prog X.w) k f fd ps (spOf X.K rs0 (as2 iα iβ) iγ Φ)) (hb : Binds X.K fd ps []) (hr : Room k X.A)
    (hs : PySem.W.findIn X.K (.ref C) (cmpInfo op).2.1 = some (some (.ref f))) (hf : PySem.W.isFn X.K (.ref f) = true) :
    OpW X (compareOp op) iα iβ iγ (rOwn2 C (fun y H => IsI H C y) (spOf X.K rs0 (as2 iα iβ) iγ Φ)) (fun a b post _ => Φ (a, b, ()) post (fun _ => False)) := by
  refine ⟨fun pins s σ H x y v u Q I rx ry h => ?_, fun rs G H x y a b post ep Q w hx hy φ k => ⟨hα.is w.s hx, hβ.is w.s hy, sp_use w (.cons (.val hx) (.cons (.val hy) .nil)) φ k⟩⟩
  obtain ⟨⟨p, dx, fs, rfl, h1⟩, ⟨q, dy, gs, rfl, h2⟩, h⟩ := h
  cases rx
  cases ry
  obtain ⟨ox, od, J⟩ := inst_at I h1
  obtain ⟨oy, oe, J'⟩ := inst_at I h2
  obtain ⟨m, hF⟩ := I.fr
  rw [hop]
  refine PySem.W.cmp_K (tb := .ref C) hr.units0 hF I.ok.mod.kin J J'.type (by simp [PySem.W.notFirst]) hs hf ?_
  exact thn (own_run (vs := [.ref p, .ref q]) hr rfl F hb I (.cons rfl (.cons rfl .nil)) h) fun v s' z => back_of z
/-- x in o, o an own instance -/
def rOwnIn (C : Addr) (sp : Sp) : R2 := fun x y H Q => IsI H C y ∧ sp [y, x] H (fun z H' => ∃ b, z = .bl b ∧ Q (.bl b) H') E0
theorem inw_own {Φ : β × α × Unit → Pt Bool} (hβ : InsR X.K iβ C) (F : FnOk X.prog X.w X.K X.mg X.base (L2.CX X.prog X.w) k f fd ps (spOf X.K rs0 (as2 iβ iα) rpB Φ)) (hb : Binds X.K fd ps []) (hr : Room k X.A)
    (hs : PySem.W.findIn X.K (.ref C) "__contains__" = some (some (.ref f))) (hf : PySem.W.isFn X.K (.ref f) = true) :
    OpW X (compareOp .In) iα iβ rpB (rOwnIn C (spOf X.K rs0 (as2 iβ iα) rpB Φ)) (fun a b post _ => Φ (b, a, ()) post (fun _ => False)) := by
  refine ⟨fun pins s σ H x y v u Q I rx ry h => ?_, fun rs G H x y a b post ep Q w hx hy φ k => ⟨hβ.is w.s hy, sp_use w (.cons (.val hy) (.cons (.val hx) .nil)) φ fun G' H' z m g r p => ⟨m, r, k G' H' _ m g rfl p⟩⟩⟩
  obtain ⟨⟨p, dx, fs, rfl, h1⟩, h⟩ := h
  cases ry
  obtain ⟨ox, od, J⟩ := inst_at I h1
  obtain ⟨m, hF⟩ := I.fr
  refine PySem.W.in_K hF I.ok.mod.kin J hs hf ?_
  refine thn (own_run (vs := [.ref p, x]) hr rfl F hb I (.cons rfl (.cons rx .nil)) h) fun v s' z => ?_
  obtain ⟨z, H', I', r, b, rfl, q⟩ := z
  cases r
  exact wpAny_truthy_bool ⟨.bl b, H', I', rfl, q⟩
def rOwnNi (C : Addr) (sp : Sp) : R2 := fun x y H Q => IsI H C y ∧ sp [y, x] H (fun z H' => ∃ b, z = .bl b ∧ Q (.bl (!b)) H') E0
theorem ninw_own {Φ : β × α × Unit → Pt Bool} (hβ : InsR X.K iβ C) (F : FnOk X.prog X.w X.K X.mg X.base (L2.CX X.prog X.w) k f fd ps (spOf X.K rs0 (as2 iβ iα) rpB Φ)) (hb : Binds X.K fd ps []) (hr : Room k X.A)
    (hs : PySem.W.findIn X.K (.ref C) "__contains__" = some (some (.ref f))) (hf : PySem.W.isFn X.K (.ref f) = true) :
    OpW X (compareOp .NotIn) iα iβ rpB (rOwnNi C (spOf X.K rs0 (as2 iβ iα) rpB Φ)) (fun a b post _ => Φ (b, a, ()) (fun r => post (!r)) (fun _ => False)) := by
  refine ⟨fun pins s σ H x y v u Q I rx ry h => ?_, fun rs G H x y a b post ep Q w hx hy φ k => ⟨hβ.is w.s hy, sp_use w (.cons (.val hy) (.cons (.val hx) .nil)) φ fun G' H' z m g r p => ⟨m, r, k G' H' _ (!m) g rfl p⟩⟩⟩
  obtain ⟨⟨p, dx, fs, rfl, h1⟩, h⟩ := h
  cases ry
  obtain ⟨ox, od, J⟩ := inst_at I h1
  obtain ⟨m, hF⟩ := I.fr
  refine PySem.W.notIn_K hF I.ok.mod.kin J hs hf ?_
  refine thn (own_run (vs := [.ref p, x]) hr rfl F hb I (.cons rfl (.cons rx .nil)) h) fun v s' z => ?_
  obtain ⟨z, H', I', r, b, rfl, q⟩ := z
  cases r
  exact wpAny_truthy_bool ⟨.bl (!b), H', I', rfl, q⟩
/-- len(o) -/
def rOwnLen (C : Addr) (sp : Sp) : List V → Hp → VK → Prop := fun xs H Q => ∃ x, xs = [x] ∧ IsI H C x ∧ sp [x] H (fun z H' => ∃ n : Int, z = .int n ∧ (0 ≤ n ∧ n < 2 ^ 63) ∧ Q (.int n) H') E0
theorem lenw_own {Φ : α × Unit → Pt Int} (hα : InsR X.K iα C) (F : FnOk X.prog X.w X.K X.mg X.base (L2.CX X.prog X.w) k f fd ps (spOf X.K rs0 (as1 iα) rpI Φ)) (hb : Binds X.K fd ps []) (hr : Room (k + 1) X.A)
    (hs : PySem.W.findIn X.K (.ref C) "__len__" = some (some (.ref f))) (hf : PySem.W.isFn X.K (.ref f) = true) :
    CallW X (.builtin "len") (as1 iα) rpI (rOwnLen C (spOf X.K rs0 (as1 iα) rpI Φ)) (fun a post _ => Φ (a.1, ()) (fun n => (0 ≤ n ∧ n < 2 ^ 63) ∧ post n) (fun _ => False)) := by
  refine ⟨fun pins s σ H xs us Q I r h => ?_, fun rs G H vs x post ep Q w ha φ k => ?_⟩
  · obtain ⟨x, rfl, ⟨p, dx, fs, rfl, h1⟩, h⟩ := h
    obtain ⟨u, rfl, ru⟩ := vals1 r
    cases ru
    obtain ⟨ox, od, J⟩ := inst_at I h1
    obtain ⟨m, hF⟩ := I.fr
    refine PySem.W.len_K hF I.ok.mod.kin J hs hf ?_
    refine thn (own_run (vs := [.ref p]) hr.in1 rfl F hb I (.cons rfl .nil) h) fun v s' z => ?_
    obtain ⟨z, H', I', r, n, rfl, hn, q⟩ := z
    obtain ⟨t, rfl⟩ := r
    exact ⟨hn, ⟨.int n, H', I'.tok _, ⟨_, rfl⟩, q⟩⟩
  · obtain ⟨v, rfl, hv⟩ := one1 ha
    exact ⟨v, rfl, hα.is w.s hv, sp_use w (.cons (.val hv) .nil) φ fun G' H' z m g r p => ⟨m, r, p.1, k G' H' _ m g rfl p.2⟩⟩
/-- repr(o) -/
def rOwnRepr (C : Addr) (sp : Sp) : List V → Hp → VK → Prop := fun xs H Q => ∃ x, xs = [x] ∧ IsI H C x ∧ sp [x] H (fun z H' => ∃ n : Str, z = .str n ∧ Q (.str n) H') E0
theorem reprw_own {Φ : α × Unit → Pt Str} (hα : InsR X.K iα C) (F : FnOk X.prog X.w X.K X.mg X.base (L2.CX X.prog X.w) k f fd ps (spOf X.K rs0 (as1 iα) rpS Φ)) (hb : Binds X.K fd ps []) (hr : Room (k + 1) X.A)
    (hs : PySem.W.findIn X.K (.ref C) "__repr__" = some (some (.ref f))) (hf : PySem.W.isFn X.K (.ref f) = true) :
    CallW X (.builtin "repr") (as1 iα) rpS (rOwnRepr C (spOf X.K rs0 (as1 iα) rpS Φ)) (fun a post _ => Φ (a.1, ()) post (fun _ => False)) := by
  refine ⟨fun pins s σ H xs us Q I r h => ?_, fun rs G H vs x post ep Q w ha φ k => ?_⟩
  · obtain ⟨x, rfl, ⟨p, dx, fs, rfl, h1⟩, h⟩ := h
    obtain ⟨u, rfl, ru⟩ := vals1 r
    cases ru
    obtain ⟨ox, od, J⟩ := inst_at I h1
    obtain ⟨m, hF⟩ := I.fr
    refine PySem.W.repr_K (hr.in1).units0 hF I.ok.mod.kin J hs hf ?_
    refine thn (own_run (vs := [.ref p]) hr.in1 rfl F hb I (.cons rfl .nil) h) fun v s' z => ?_
    obtain ⟨z, H', I', r, n, rfl, q⟩ := z
    obtain ⟨t, rfl⟩ := r
    exact ⟨.str n, H', I', ⟨_, rfl⟩, q⟩
  · obtain ⟨v, rfl, hv⟩ := one1 ha
    exact ⟨v, rfl, hα.is w.s hv, sp_use w (.cons (.val hv) .nil) φ fun G' H' z m g r p => ⟨m, r, k G' H' _ m g rfl p⟩⟩
/-- an own instance's truth, by __bool__ -/
def tOwnTru (C : Addr) (sp : Sp) (te : TE) : TT := fun σ H Q => te σ H fun x H1 => IsI H1 C x ∧ sp [x] H1 (fun z H' => ∃ b, z = .bl b ∧ Q b H') E0
theorem t_own {c : Cn} {ρ : List Sl} {e : Expr} {te : TE} {Φe : Pt α} {Φ : α × Unit → Pt Bool} (hα : InsR X.K iα C) (F : FnOk X.prog X.w X.K X.mg X.base (L2.CX X.prog X.w) k f fd ps (spOf X.K rs0 (as1 iα) rpB Φ)) (hb : Binds X.K fd ps []) (hr : Room k X.A)
    (hs : PySem.W.findIn X.K (.ref C) "__bool__" = some (some (.ref f))) (hf : PySem.W.isFn X.K (.ref f) = true) (he : JE X c e ρ iα te Φe)
    (ht : ∀ whole, isTrue e X.env whole = (do let v ← whole; standAt e.pos; holding [v] (truthy v)) := by intro _; rfl) : JT X c e ρ (tOwnTru C (spOf X.K rs0 (as1 iα) rpB Φ) te) (fun post ep => Φe (fun m => Φ (m, ()) post (fun _ => False)) ep) := by
  refine ⟨⟨fun pins s σ H Q I h => ?_⟩, fun post ep φ G H σ w E Q k hx => he.sem _ _ φ G H σ w E _ (fun G1 H1 v m g r p => ⟨hα.is g.w.s r, sp_use g.w (.cons (.val r) .nil) p fun G' H' z b g' r' p' => ⟨b, r', k G' H' b (g.trans g') p'⟩⟩) hx⟩
  refine isTrue_plain (thn (he.pe.run pins s σ H _ I h) fun v s1 ⟨x, H1, I1, r1, ⟨p, dx, fs, ex, h1⟩, q1⟩ => ?_) (ht _)
  subst ex
  cases r1
  obtain ⟨ox, od, J⟩ := inst_at I1 h1
  obtain ⟨m, hF⟩ := I1.fr
  refine PySem.W.truthy_K hF I1.ok.mod.kin J hs hf ?_
  refine thn (own_run (vs := [.ref p]) hr rfl F hb I1 (.cons rfl .nil) q1) fun v s' z => ?_
  obtain ⟨z, H', I', r, b, rfl, q⟩ := z
  cases r
  exact ⟨H', I', q⟩
end
end Ty

set_option Elab.async false
set_option linter.all false
set_option maxRecDepth 100000
set_option maxHeartbeats 4000000
set_option autoImplicit false
/-! Ty, part H: ranges as values, f-strings, bool and not of own instances, reflected operators -/
namespace Ty
open PySem PySem.Spec PyProof.Rows L2
/-- a range object -/
structure Rg where
  lo : Int
  hi : Int
instance rpR : Rp Rg := ⟨fun _ G v m => ∃ a, v = .ref a ∧ G a = some (.rng m.lo m.hi), fun e h => by
  obtain ⟨a, h1, h2⟩ := h
  exact ⟨a, h1, e _ _ h2⟩⟩
section
variable {X : Cx}
abbrev rRng2 : List V → Hp → VK → Prop := fun vs H Q => ∃ i j, vs = [V.int i, V.int j] ∧ ∀ p, H p = none → Q (.ref p) (upd H p (.rng i j))
theorem rng_2 : CallW X (.type "range") (as2 rpI rpI) rpR rRng2 (fun x post _ => post ⟨x.1, x.2.1⟩) :=
  ⟨cr_range2, fun rs G H vs x post ep Q w ha φ k => by
    obtain ⟨v, u, rfl, rfl, rfl⟩ := two2 ha
    refine ⟨x.1, x.2.1, rfl, fun p hp => ?_⟩
    have g := gr_new (o := .rng x.1 x.2.1) w hp
    exact k _ _ _ _ g ⟨p, rfl, upd_same⟩ φ⟩
def rLenR : List V → Hp → VK → Prop := fun xs H Q => ∃ a lo hi, xs = [.ref a] ∧ H a = some (.rng lo hi) ∧ hi - lo < 2 ^ 63 ∧ Q (.int (max 0 (hi - lo))) H
theorem size1 (lo hi : Int) : Builtin.Range.rangeSize lo hi 1 = max 0 (hi - lo) := by
  unfold Builtin.Range.rangeSize
  simp
  try omega
theorem call_lenR : CallR X (.builtin "len") rLenR := by
  intro pins s σ H xs us Q I r h
  obtain ⟨a, lo, hi, rfl, ha, hb, q⟩ := h
  obtain ⟨u, rfl, ru⟩ := vals1 r
  cases ru
  obtain ⟨t, u, v, hr⟩ := I.hok a _ ha
  refine call_len_range (n := (max 0 (hi - lo)).toNat) (a := lo) (b := hi) (c := 1) (t := t) (u := u) (v := v) hr ?_ (by omega) ?_
  · rw [size1]
    omega
  · have e : (((max 0 (hi - lo)).toNat : Nat) : Int) = max 0 (hi - lo) := by omega
    rw [e]
    exact ⟨.int (max 0 (hi - lo)), H, I.tok _, ⟨_, rfl⟩, q⟩
theorem len_R : CallW X (.builtin "len") (as1 rpR) rpI rLenR (fun x post _ => x.1.hi - x.1.lo < 2 ^ 63 ∧ post (max 0 (x.1.hi - x.1.lo))) :=
  ⟨call_lenR, fun rs G H vs x post ep Q w ha φ k => by
    obtain ⟨v, rfl, a, rfl, h⟩ := one1 ha
    exact ⟨a, x.1.lo, x.1.hi, rfl, w.s _ _ h, φ.1, k G H _ _ (Gr.refl w) rfl φ.2⟩⟩
end
/-! ### f-strings -/
section
variable {X : Cx} {c : Cn} {ρ : List Sl} {e : Expr} {te : TE} {pos : Pos}
theorem e_fmtI {Φ : Pt Int} (he : JE X c e ρ rpI te Φ) : JE X c (.FormattedValue e (-1) none pos) ρ rpS (tFmt te) (fun post ep => Φ (fun n => n.natAbs.log2 < 1920 ∧ post (toString n)) ep) :=
  ⟨pe_fmt he.pe, fun post ep φ G H σ w E Q k hx => he.sem _ _ φ G H σ w E _ (fun G1 H1 v m g r p => .inr ⟨m, r, p.1, k G1 H1 _ _ g rfl p.2⟩) hx⟩
theorem e_fmtS {Φ : Pt Str} (he : JE X c e ρ rpS te Φ) : JE X c (.FormattedValue e (-1) none pos) ρ rpS (tFmt te) (fun post ep => Φ (fun n => n.length ≤ sizeLine ∧ post n) ep) :=
  ⟨pe_fmt he.pe, fun post ep φ G H σ w E Q k hx => he.sem _ _ φ G H σ w E _ (fun G1 H1 v m g r p => .inl ⟨m, r, p.1, k G1 H1 _ _ g rfl p.2⟩) hx⟩
structure JF (X : Cx) (c : Cn) (es : List Expr) (ρ : List Sl) (ts : List TE) (Φ : Str → Pt Str) : Prop where
  pe : PJ X es ts
  sem : ∀ acc post ep, Φ acc post ep → ∀ G H σ, Wd c.rs G H → En X.K c.rs c.H0 G H σ ρ → ∀ Q : Str → Hp → Prop, (∀ G' H' m, Gr c.rs G H G' H' → post m → Q m H') → XOk X c G H σ ep → tJs ts acc σ H Q
theorem f_nil : JF X c [] ρ [] (fun acc post _ => post acc) := ⟨.nil, fun acc post ep φ G H σ w E Q k hx => k G H acc (Gr.refl w) φ⟩
theorem f_cons {es : List Expr} {ts : List TE} {Φe : Pt Str} {Φr : Str → Pt Str} (he : JE X c e ρ rpS te Φe) (hr : JF X c es ρ ts Φr) : JF X c (e :: es) ρ (te :: ts) (fun acc post ep => Φe (fun y => (acc ++ y).length ≤ sizeLine ∧ Φr (acc ++ y) post ep) ep) :=
  ⟨.cons he.pe hr.pe, fun acc post ep φ G H σ w E Q k hx => he.sem _ _ φ G H σ w E _ (fun G1 H1 v m g r p => ⟨m, r, p.1, hr.sem _ _ _ p.2 G1 H1 σ g.w (E.up g) _ (fun G2 H2 n g2 q => k G2 H2 n (g.trans g2) q) (hx.up g)⟩) hx⟩
theorem e_fstr {v1 v2 : Expr} {rest : List Expr} {ts : List TE} {Φ : Str → Pt Str} (h : JF X c (v1 :: v2 :: rest) ρ ts Φ) : JE X c (.JoinedStr (v1 :: v2 :: rest) pos) ρ rpS (fun σ H Q => tJs ts Str.empty σ H fun out H1 => Q (.str out) H1) (Φ Str.empty) :=
  ⟨pe_joined h.pe, fun post ep φ G H σ w E Q k hx => h.sem _ _ _ φ G H σ w E _ (fun G1 H1 m g p => k G1 H1 _ m g rfl p) hx⟩
end
/-! ### own instances: bool(o), not o -/
section
variable {X : Cx} {k : Nat} {C f : Addr} {fd : FuncData} {ps : List Str} {α β γ : Type} {iα : Rp α} {iβ : Rp β} {iγ : Rp γ}
def tOwnNot (C : Addr) (sp : Sp) (te : TE) : TE := fun σ H Q => te σ H fun x H1 => IsI H1 C x ∧ sp [x] H1 (fun z H' => ∃ b, z = .bl b ∧ Q (.bl (!b)) H') E0
theorem e_notO {c : Cn} {ρ : List Sl} {e : Expr} {te : TE} {pos : Pos} {Φe : Pt α} {Φ : α × Unit → Pt Bool} (hα : InsR X.K iα C) (F : FnOk X.prog X.w X.K X.mg X.base (L2.CX X.prog X.w) k f fd ps (spOf X.K rs0 (as1 iα) rpB Φ)) (hb : Binds X.K fd ps []) (hr : Room k X.A)
    (hs : PySem.W.findIn X.K (.ref C) "__bool__" = some (some (.ref f))) (hf : PySem.W.isFn X.K (.ref f) = true) (he : JE X c e ρ iα te Φe) :
    JE X c (.UnaryOp .Not e pos) ρ rpB (tOwnNot C (spOf X.K rs0 (as1 iα) rpB Φ) te) (fun post ep => Φe (fun m => Φ (m, ()) (fun b => post (!b)) (fun _ => False)) ep) := by
  refine ⟨⟨fun pins s σ H Q I h => ?_⟩, fun post ep φ G H σ w E Q k hx => he.sem _ _ φ G H σ w E _ (fun G1 H1 v m g r p => ⟨hα.is g.w.s r, sp_use g.w (.cons (.val r) .nil) p fun G' H' z b g' r' p' => ⟨b, r', k G' H' _ (!b) (g.trans g') rfl p'⟩⟩) hx⟩
  refine UnaryOp_ (thn (he.pe.run pins s σ H _ I h) fun v s1 ⟨x, H1, I1, r1, ⟨p, dx, fs, ex, h1⟩, q1⟩ => ?_)
  subst ex
  cases r1
  obtain ⟨ox, od, J⟩ := inst_at I1 h1
  obtain ⟨m, hF⟩ := I1.fr
  refine not_of (PySem.W.truthy_K hF I1.ok.mod.kin J hs hf ?_)
  refine thn (own_run (vs := [.ref p]) hr rfl F hb I1 (.cons rfl .nil) q1) fun v s' z => ?_
  obtain ⟨z, H', I', r, b, rfl, q⟩ := z
  cases r
  exact ⟨.bl (!b), H', I', rfl, q⟩
end
end Ty

set_option Elab.async false
set_option linter.all false
set_option maxRecDepth 100000
set_option maxHeartbeats 1000000
set_option autoImplicit false
/-! Ty, part I: bool(o), n * o, isinstance, own dicts -/
namespace Ty
open PySem PySem.Spec PyProof.Rows L2

/-! ### bool(o) -/
section
variable {prog : Program} {w : World} {A : Around} {E : Value → Shared → Prop} {s : Shared}
theorem call_boolIn {x : Value} {S : PySem.Spec} {Q : Value → Shared → Prop} (g : MeetsIn prog w (Builtin.«bool.__new__» ⟨[.type "bool", x], []⟩) S) (h : S A.in1 (wants (fun obj s₁ => s₁.TypeIs obj "bool" ∧ Q obj s₁) E) s) :
    wpAny (model prog w) A (call (.type "bool") [x]) Q E s := by
  have ft := F.called_bool
  obtain ⟨c, tl, hmro⟩ := ft.mro
  have hmade := ft.made
  have hsub := ft.sub
  refine wpAny_call (codeAny_of_tree ?_)
  show wpAny _ _ (callAny (.type "bool") _) _ _ _
  refine wpAny_pure ⟨Code.quiet_builtin _ (by decide +kernel), codeAny_builtin F.entry_type_call ?_⟩
  rw [Around.under_plain (weight_type_call_type "bool" [x] []) (units_type_call_type "bool" [x] [])]
  have h1 := ft.notType
  have h2 := ft.canCreate
  have hct := F.typeCall_bool_1 x
  repeat (any_goals (first | assumption | wp_step))
  refine codeAny_mono (codeAny_call_builtin ft.plain F.entry_bool_new (wpAny_of_eq (F.newCall_bool_1 x) (g A.in1 _ s h))) fun r s₁ hr => ?_
  cases r with
  | error e => exact hr
  | ok fl =>
    cases fl with
    | ret obj =>
      obtain ⟨hT, hq⟩ := hr
      have hli := ft.init.lookup
      have hbi := ft.init.bind obj
      repeat (any_goals (first | assumption | wp_step))
      refine codeAny_mono (codeAny_call_builtin ft.init.plain F.entry_object_init (ft.init.check _ _ _ _ _ _ _ _ hT (F.args_object_init_2 obj x) (object_init_meets ft.init.lookup ft.made F.newNe_bool prog w A.in1 (wants (fun r s₂ => r = .none ∧ Q obj s₂) E) s₁ ⟨hT, rfl, hq⟩))) fun r₂ s₂ hr₂ => ?_
      cases r₂ with
      | error e => exact hr₂
      | ok fl₂ =>
        cases fl₂ with
        | ret r =>
          obtain ⟨rfl, hq⟩ := hr₂
          repeat (any_goals (first | assumption | wp_step))
        | _ => exact hr₂.elim
    | _ => exact hr.elim
theorem call_boolT {x : Value} {Q : Value → Shared → Prop} (hx : ∀ b, x ≠ .bool b) (h : wpAny (model prog w) A.in1.in1 (truthy x) (fun b s' => Q (.bool b) s') E s) : wpAny (model prog w) A (call (.type "bool") [x]) Q E s := by
  refine call_boolIn (S := fun A R s => wpAny (model prog w) A.in1 (truthy x) (fun b s' => R (.ok (.ret (.bool b))) s') (fun e s' => R (.error e) s') s) (MeetsIn.of_wp fun A R s hs => ?_) ?_
  · have f1 := F.conv_sub_bool
    unfold Builtin.«bool.__new__»
    refine wpAny_bind (m := isType (.type "bool")) (wpAny_of_eq rfl ?_)
    refine wpAny_bind (m := isSubtype (.type "bool") (.type "bool")) (wpAny_of_eq f1 ?_)
    refine wpAny_bind (m := someArgs "bool" 0 1 _) (wpAny_pure ?_)
    exact wpAny_bind (wpAny_mono hs (fun b s' q => wpAny_pure ⟨_, rfl, q⟩) fun _ _ z => z)
  · exact wpAny_mono h (fun b s' q => ⟨PySem.typeIs_bool _ _, q⟩) fun _ _ z => z
end

section
variable {X : Cx} {k : Nat} {C f : Addr} {fd : FuncData} {ps : List Str} {α β γ : Type} {iα : Rp α} {iβ : Rp β} {iγ : Rp γ}
def rOwnBool (C : Addr) (sp : Sp) : List V → Hp → VK → Prop := fun xs H Q => ∃ x, xs = [x] ∧ IsI H C x ∧ sp [x] H (fun z H' => ∃ b, z = .bl b ∧ Q (.bl b) H') E0
/-- bool(o) by __bool__ -/
theorem boolw_own {Φ : α × Unit → Pt Bool} (hα : InsR X.K iα C) (F : FnOk X.prog X.w X.K X.mg X.base (L2.CX X.prog X.w) k f fd ps (spOf X.K rs0 (as1 iα) rpB Φ)) (hb : Binds X.K fd ps []) (hr : Room (k + 2) X.A)
    (hs : PySem.W.findIn X.K (.ref C) "__bool__" = some (some (.ref f))) (hf : PySem.W.isFn X.K (.ref f) = true) :
    CallW X (.type "bool") (as1 iα) rpB (rOwnBool C (spOf X.K rs0 (as1 iα) rpB Φ)) (fun a post _ => Φ (a.1, ()) post (fun _ => False)) := by
  refine ⟨fun pins s σ H xs us Q I r h => ?_, fun rs G H vs x post ep Q w ha φ k => ?_⟩
  · obtain ⟨x, rfl, ⟨p, dx, fs, rfl, h1⟩, h⟩ := h
    obtain ⟨u, rfl, ru⟩ := vals1 r
    cases ru
    obtain ⟨ox, od, J⟩ := inst_at I h1
    obtain ⟨m, hF⟩ := I.fr
    refine call_boolT (fun _ z => nomatch z) (PySem.W.truthy_K hF I.ok.mod.kin J hs hf ?_)
    refine thn (own_run (vs := [.ref p]) (show Room k X.A.in1.in1 from (hr.in1).in1) rfl F hb I (.cons rfl .nil) h) fun v s' z => ?_
    obtain ⟨z, H', I', r, b, rfl, q⟩ := z
    cases r
    exact ⟨.bl b, H', I', rfl, q⟩
  · obtain ⟨v, rfl, hv⟩ := one1 ha
    exact ⟨v, rfl, hα.is w.s hv, sp_use w (.cons (.val hv) .nil) φ fun G' H' z m g r p => ⟨m, r, k G' H' _ m g rfl p⟩⟩
end

/-! ### n * o -/
theorem int_mul_inst (a : Int) (t : Tok) (p C dx : Addr) :
    Meets (Builtin.«int.__mul__» ⟨[.int a t, .ref p], []⟩) (fun _ R s => s.heap.get? p = some (PySem.W.instObj C dx) ∧ R (.ok (.ret Value.notImplemented)) s) :=
  .of_wp fun prog w A R s h => by obtain ⟨hp, g, d, tk, os⟩ := s; obtain ⟨hl, h⟩ := h; unfold PySem.W.instObj at hl; wp_walk; exact ⟨_, rfl, h⟩
section
open PySem.W PySem.Calls
variable {prog : Program} {w : World} {A : Around} {E : Value → Shared → Prop} {s : Shared} {K : PySem.W.Frag} {x C L f f' dx : Addr} {h₀ : Heap} {m : Str → Option Value} {od : Option Obj}
theorem int_mul_decl {n : Int} {t : Tok} {R : Shared → Prop} (hx : s.heap.get? x = some (PySem.W.instObj C dx)) (h : R s) :
    wpAny (model prog w) A (call (.builtin "int.__mul__") [.int n t, .ref x]) (fun v s' => v = .notImplemented ∧ R s') E s :=
  PySem.call_meets PySem.F.slot_int_mul (PySem.typeIs_int _ _ _) PySem.F.entry_int_mul (PySem.F.args_int_mul_2 _ _) (int_mul_inst n t x C dx) ⟨hx, rfl, h⟩
theorem int_mul_try {n : Int} {t : Tok} {R : Option Value → Shared → Prop} (hx : s.heap.get? x = some (PySem.W.instObj C dx)) (h : R none s) :
    wpAny (model prog w) A (tryMethod (.int n t) (PySem.dunder "mul") (.ref x)) R E s :=
  @PySem.wpAny_tryMethod_declines (model prog w) A E s (.int n t) (.ref x) "int" (PySem.dunder "mul") "int.__mul__" R (PySem.typeIs_int _ _ _) PySem.F.slot_int_mul (int_mul_decl (R := fun s' => R none s') hx h)
theorem refl_mul {n : Int} {t : Tok} {Q : Value → Shared → Prop} (F : Fr h₀ L s.heap m) (X₀ : K.In h₀) (J : InstAt s.heap x (PySem.W.instObj C dx) C od) (hc : selfFirst K C = true)
    (hm : PySem.W.findIn K (.ref C) (PySem.dunder "mul") = some (some (.ref f))) (hs : PySem.W.findIn K (.ref C) (dunderR "mul") = some (some (.ref f'))) (hf : PySem.W.isFn K (.ref f') = true) (hsub : subIn K (.ref C) (.type "int") = some false)
    (h : wpAny (model prog w) A (call (.ref f') [.ref x, .int n t]) (PySem.W.CmpBack Q) E s) : wpAny (model prog w) A (binaryOp .Mult (.int n t) (.ref x)) Q E s := by
  have X := X₀.keeps F.keep
  obtain ⟨cd, rest, hcd, hmr⟩ := ksp_first hc
  have one := ksp_try X J hs hf h
  have hx := J.at_
  obtain ⟨hh, gg, d, tt, os⟩ := s
  have L1 : Looks (model prog w) hh (typeOf (.ref x)) (.ref C) := J.type
  have L3 : Looks (model prog w) hh (fillsNumberSlot (.ref C) "mul") true := fills_K X hcd hmr hm
  have L4 : Looks (model prog w) hh (fillsNumberSlot (.type "int") "mul") true := Looks.of_pure PySem.F.fills_int_mul
  have L5 : Looks (model prog w) hh (isSubtype (.ref C) (.type "int")) false := looks_subIn X hsub
  have L7 : Looks (model prog w) hh (numberSlotInPython (.type "int") "mul") false := Looks.of_pure rfl
  have hne : (Value.type "int" == Value.ref C) = false := Bool.eq_false_iff.mpr fun q => by cases beq_iff_eq.mp q
  unfold binaryOp
  refine wpAny_holding (wpAny_bind ?_)
  show wpAny _ _ (binaryOp1 "mul" _ _) _ _ _
  unfold binaryOp1
  refine wpAny_bind (wpAny_of_eq (show typeOf (.int n t) = pure (.type "int") from rfl) (wpAny_bind (L1.at (wpAny_bind (L4.at ?_)))))
  simp only [hne, Bool.false_eq_true, if_false]
  refine wpAny_bind (L3.at ?_)
  simp only [Bool.and_self, if_true]
  refine wpAny_bind (L5.at ?_)
  simp only [Bool.false_eq_true, if_false]
  ksp_lk
  refine int_mul_try hx ?_
  show wpAny _ _ (tryMethod (Value.ref x) (dunderR "mul") (Value.int n t) >>= _) _ _ _
  refine wpAny_bind (wpAny_mono one (fun r s' hr' => ?_) fun _ _ e => e)
  obtain ⟨v, rfl, hq⟩ := hr'
  refine wpAny_bind (wpAny_rule (wpAny_pure ?_))
  exact wpAny_pure hq
end
section
variable {X : Cx} {k : Nat} {C f f' : Addr} {fd : FuncData} {ps : List Str} {α β γ : Type} {iα : Rp α} {iβ : Rp β} {iγ : Rp γ}
def rOwnR (C : Addr) (sp : Sp) : R2 := fun x y H Q => IsI H C y ∧ (∃ n, x = .int n) ∧ sp [y, x] H Q E0
/-- n * o by __rmul__ -/
theorem rmulw_own {Φ : α × Int × Unit → Pt γ} (hα : InsR X.K iα C) (F : FnOk X.prog X.w X.K X.mg X.base (L2.CX X.prog X.w) k f' fd ps (spOf X.K rs0 (as2 iα rpI) iγ Φ)) (hb : Binds X.K fd ps []) (hr : Room k X.A)
    (hsf : PySem.W.selfFirst X.K C = true) (hm : PySem.W.findIn X.K (.ref C) (PySem.dunder "mul") = some (some (.ref f))) (hs : PySem.W.findIn X.K (.ref C) (PySem.dunderR "mul") = some (some (.ref f'))) (hf : PySem.W.isFn X.K (.ref f') = true) (hsub : PySem.W.subIn X.K (.ref C) (.type "int") = some false) :
    OpW X (binaryOp .Mult) rpI iα iγ (rOwnR C (spOf X.K rs0 (as2 iα rpI) iγ Φ)) (fun a b post _ => Φ (b, a, ()) post (fun _ => False)) := by
  refine ⟨fun pins s σ H x y v u Q I rx ry h => ?_, fun rs G H x y a b post ep Q w hx hy φ k => ⟨hα.is w.s hy, ⟨a, hx⟩, sp_use w (.cons (.val hy) (.cons (.val hx) .nil)) φ k⟩⟩
  obtain ⟨⟨p, dx, fs, rfl, hp1⟩, ⟨n, rfl⟩, h⟩ := h
  obtain ⟨t, rfl⟩ := rx
  cases ry
  obtain ⟨mA, J, _⟩ := ins_get I.hok hp1
  obtain ⟨od, J, _⟩ := J.look
  obtain ⟨m, hF⟩ := I.fr
  refine refl_mul hF I.ok.mod.kin J hsf hm hs hf hsub ?_
  exact thn (own_run (vs := [.ref p, .int n]) hr rfl F hb I (.cons rfl (.cons ⟨t, rfl⟩ .nil)) h) fun v s' z => back_of z
end

/-! ### isinstance -/
/-- a class as an argument -/
def rpC (c : V) : Rp Unit := ⟨fun _ _ v _ => v = c, fun _ h => h⟩
def TyV (K : Fg) {α : Type} (i : Rp α) (t : Value) : Prop := ∀ (G H : Hp) (v : V) (m : α), Ex G H → i.rp K G v m → TyX K H v t
theorem tyI {K : Fg} : TyV K rpI (.type "int") := fun G H v m e h => by
  obtain rfl : v = .int m := h
  exact .base (.int m)
theorem tyB {K : Fg} : TyV K rpB (.type "bool") := fun G H v m e h => by
  obtain rfl : v = .bl m := h
  exact .base (.bl m)
theorem tyS {K : Fg} : TyV K rpS (.type "str") := fun G H v m e h => by
  obtain rfl : v = .str m := h
  exact .base (.str m)
theorem tyN {K : Fg} : TyV K rpN (.type "NoneType") := fun G H v m e h => by
  obtain rfl : v = .non := h
  exact .base .non
theorem tyL {K : Fg} {α : Type} {i : Rp α} : TyV K (rpL (i := i)) (.type "list") := fun G H v m e h => by
  obtain ⟨a, vs, rfl, h1, _⟩ := h
  exact .base (.lst (e _ _ h1))
theorem tySqT {K : Fg} {G H : Hp} {a : Addr} {xs : List V} (e : Ex G H) (h : SqT K G a xs) : TyX K H (.ref a) (.type "tuple") := by
  rcases e.st h with (h | ⟨o, h⟩) | ⟨o, its, n, h1, h2, _⟩
  · exact .base (.tup h)
  · exact .fTuple h
  · exact .kTuple h1 h2
theorem tyT {K : Fg} {α : Type} {i : Rp α} : TyV K (rpT (i := i)) (.type "tuple") := fun G H v m e h => by
  obtain ⟨a, vs, rfl, h1, _⟩ := h
  exact tySqT e h1
theorem ty2 {K : Fg} {α β : Type} {i : Rp α} {j : Rp β} : TyV K (rp2 (i := i) (j := j)) (.type "tuple") := fun G H v m e h => by
  obtain ⟨a, x, y, rfl, h1, _⟩ := h
  exact tySqT e h1
structure OwnC (K : Fg) (C : Addr) : Prop where
  cl : Cls K C
  ha : PySem.W.findIn K (.ref C) "__class__" = some (some (.builtin "object.__class__"))
  hn : PySem.W.specialIn K (.builtin "object.__class__") "__get__" = some (some (.builtin "getset_descriptor.__get__"))
  ht : PySem.W.takesIn K (.builtin "object.__class__") = some true
  hm : PySem.W.mroIn K C (.type "object") = some true
theorem tyO {K : Fg} {α : Type} {i : Rp α} {C : Addr} (hi : InsR K i C) (o : OwnC K C) : TyV K i (.ref C) := fun G H v m e h => by
  obtain ⟨p, dx, fs, rfl, h1⟩ := hi G v m h
  exact .base (.ins (e _ _ h1) o.cl o.ha o.hn o.ht o.hm)
section
variable {X : Cx} {c : Cn} {ρ : List Sl} {α : Type} {iα : Rp α} {pos : Pos}
theorem isiw {t u : Value} {cv : V} {b : Bool} (ht : TyV X.K iα t) (hc : ClsV cv u) (hk : PySem.W.kitOne X.K t u = some b) : CallW X (.builtin "isinstance") (as2 iα (rpC cv)) rpB (rIsi X.K) (fun x post _ => post b) :=
  ⟨call_isi, fun rs G H vs x post ep Q w ha φ k => by
    obtain ⟨v, v2, rfl, h1, h2⟩ := two2 ha
    obtain rfl : v2 = cv := h2
    exact ⟨v, v2, t, u, b, rfl, hc, ht _ _ _ _ w.s h1, hk, k G H _ _ (Gr.refl w) rfl φ⟩⟩
theorem e_clsB {x : Str} {n : String} (hm : X.mg x = none) (hv : bootBuiltins x = some (.type n) := by decide +kernel) (hg : Gl X x := by rfl) (hn : x ≠ "__name__" := by decide) (hd : (x == ("__debug__" : Str)) = false := by decide) : JE X c (.Name x pos) ρ (rpC (.ty n)) (tC (.ty n)) (fun post _ => post ()) :=
  ⟨pe_bltn hg hm hv rfl hn hd, fun post ep φ G H σ w E Q k hx => k G H _ _ (Gr.refl w) rfl φ⟩
theorem e_clsO {x : Str} {C : Addr} (hm : X.mg x = some (.ref C)) (hg : Gl X x := by rfl) (hd : (x == ("__debug__" : Str)) = false := by decide) : JE X c (.Name x pos) ρ (rpC (.ref C)) (tC (.ref C)) (fun post _ => post ()) :=
  e_glob hm rfl (fun _ => rfl) hg hd
end

/-! ### own dicts -/
class KeyW (α : Type) (i : Rp α) where
  key : α → Key
  out : ∀ {K : Fg} {G : Hp} {v : V} {m : α}, i.rp K G v m → v = kV (key m)
instance : KeyW Int rpI := ⟨Sum.inl, fun h => h⟩
instance : KeyW Str rpS := ⟨Sum.inr, fun h => h⟩
def valM {α : Type} (kvs : List (Key × α)) (k : Key) : Option α := (kvs.find? fun kv => decide (kv.1 = k)).map (·.2)
def putM {α : Type} (kvs : List (Key × α)) (k : Key) (v : α) : List (Key × α) :=
  if (kvs.any fun kv => decide (kv.1 = k)) = true then kvs.map (fun kv => if kv.1 = k then (kv.1, v) else kv) else kvs ++ [(k, v)]
section
variable {α : Type} {i : Rp α} {K : Fg} {G : Hp}
theorem KvAll.any (k : Key) : ∀ {vs : List (Key × V)} {ms : List (Key × α)}, KvAll i K G vs ms → (vs.any fun kv => decide (kv.1 = k)) = ms.any fun kv => decide (kv.1 = k)
  | _, _, .nil => rfl
  | _, _, .cons h t => by rw [List.any_cons, List.any_cons, KvAll.any k t, h.1]
theorem KvAll.val (k : Key) : ∀ {vs : List (Key × V)} {ms : List (Key × α)}, KvAll i K G vs ms → (valV vs k = none ∧ valM ms k = none) ∨ ∃ v m, valV vs k = some v ∧ valM ms k = some m ∧ i.rp K G v m
  | _, _, .nil => .inl ⟨rfl, rfl⟩
  | (a, x) :: vs, (b, y) :: ms, .cons h t => by
    obtain ⟨h1, h2⟩ := h
    obtain rfl : a = b := h1
    unfold valV valM
    rw [List.find?_cons, List.find?_cons]
    by_cases e : a = k
    · simp only [decide_eq_true e]
      exact .inr ⟨x, y, rfl, rfl, h2⟩
    · simp only [decide_eq_false e]
      exact KvAll.val k t
theorem KvAll.map (k : Key) {v : V} {m : α} (hv : i.rp K G v m) : ∀ {vs : List (Key × V)} {ms : List (Key × α)}, KvAll i K G vs ms → KvAll i K G (vs.map fun kv => if kv.1 = k then (kv.1, v) else kv) (ms.map fun kv => if kv.1 = k then (kv.1, m) else kv)
  | _, _, .nil => .nil
  | (a, x) :: vs, (b, y) :: ms, .cons h t => by
    obtain ⟨h1, h2⟩ := h
    obtain rfl : a = b := h1
    refine .cons ?_ (KvAll.map k hv t)
    by_cases e : a = k
    · simp only [if_pos e]
      exact ⟨trivial, hv⟩
    · simp only [if_neg e]
      exact ⟨trivial, h2⟩
theorem KvAll.append : ∀ {vs us : List (Key × V)} {ms ns : List (Key × α)}, KvAll i K G vs ms → KvAll i K G us ns → KvAll i K G (vs ++ us) (ms ++ ns)
  | _, _, _, _, .nil, h => h
  | _, _, _, _, .cons a t, h => .cons a (KvAll.append t h)
theorem KvAll.put {k : Key} {v : V} {m : α} {vs : List (Key × V)} {ms : List (Key × α)} (h : KvAll i K G vs ms) (hv : i.rp K G v m) : KvAll i K G (putK vs k v) (putM ms k m) := by
  unfold putK putM
  rw [h.any k]
  split
  · exact h.map k hv
  · exact h.append (.cons ⟨rfl, hv⟩ .nil)
theorem KvAll.keys : ∀ {vs : List (Key × V)} {ms : List (Key × α)}, KvAll i K G vs ms → vs.map (·.1) = ms.map (·.1)
  | _, _, .nil => rfl
  | _, _, .cons h t => by rw [List.map_cons, List.map_cons, KvAll.keys t, h.1]
end
section
variable {X : Cx} {c : Cn} {ρ : List Sl} {S L β α κ : Type} {out : S → List Sl} {lp : L → List Sl} {i : Rp β} {iα : Rp α} {iκ : Rp κ} {pos : Pos} {rest : List Stmt} {tr : TS} {e : Expr} {te : TE} {Φe : Pt α}
/-- x = {} -/
theorem b_newD (iα : Rp α) (j : Nat) {x : Str} {px p1 : Pos} {Φr : Pt (Out S L β)} (hN : X.N.Nodup) (hr : JB X c rest (ρ.set j (.md iα [])) out lp i tr Φr) (hj : X.N[j]? = some x := by rfl) (hx : Loc X.env.scope x := by first | exact Or.inl rfl | exact Or.inr rfl)
    (hs : swapsWith (.Dict [] [] p1) (some (.Name x px)) pos.line X.env = pure false := by rfl) (hf : X.fn x = true ∨ X.env.scope.names.lookup x = some .local := by first | exact .inl rfl | exact .inr rfl) :
    JB X c (.Assign [.Name x px] (.Dict [] [] p1) pos :: rest) ρ out lp i (tSeq (tAsg tDNewK (gName j)) tr) Φr := by
  refine ⟨pss_cons (ps_set hN hj hx pe_dnewK hs hf) hr.pe, fun post ep φ G H σ g E D k hx => ?_⟩
  refine fun p hp => ?_
  have gn := gr_newH (o := .dK []) g.w hp
  have h0 : c.H0 p = none := by
    by_cases q : c.H0 p = none
    · exact q
    · exact absurd hp (g.t p q)
  have hg : G p = none := by
    cases e : G p with
    | none => rfl
    | some u =>
      have := g.w.s p u e
      rw [hp] at this
      cases this
  refine hr.sem _ _ φ G _ _ (g.trans gn) ((E.up gn).setOwn (x := .md iα []) ⟨p, [], rfl, upd_same, .nil, h0, hg, not_new g.w hp⟩ fun q y _ ey oy sy => ?_) D k hx
  exact absurd hp (E.own_some ey oy sy)
/-- x[k] = e -/
theorem b_putD {ke : Expr} {tk : TE} {Φk : Pt κ} [kw : KeyW κ iκ] [Nonempty α] [Nonempty κ] {xs : List (Key × α)} (j : Nat) {x : Str} {px pa : Pos} {Φr : α → κ → Pt (Out S L β)} (hρ : ρ[j]? = some (.md iα xs)) (hu : X.A.units + 1 < cLine) (he : JE X c e ρ iα te Φe) (hk : JE X c ke ρ iκ tk Φk)
    (hr : ∀ m k, JB X c rest (ρ.set j (.md iα (putM xs (kw.key k) m))) out lp i tr (Φr m k)) (hN : X.N[j]? = some x := by rfl) (hv : Vis X.env.scope x := by first | exact Or.inl rfl | exact Or.inr (Or.inl rfl) | exact Or.inr (Or.inr rfl)) (hd : (x == ("__debug__" : Str)) = false := by decide) (hcd : (x == ("__classdict__" : Str)) = false := by decide)
    (hs : swapsWith e (some (.Subscript (.Name x px) ke pa)) pos.line X.env = pure false := by rfl) :
    JB X c (.Assign [.Subscript (.Name x px) ke pa] e pos :: rest) ρ out lp i (tSeq (sDPut (tVar j) tk te) tr) (fun post ep => Φe (fun m => Φk (fun k => xs.length < sizeLine ∧ Φr m k post ep) ep) ep) := by
  refine ⟨pss_cons (ps_dput hu (pe_var hN hv hd hcd) hk.pe he.pe hs) (hr (Classical.choice inferInstance) (Classical.choice inferInstance)).pe, fun post ep φ G H σ g E D k hx => ?_⟩
  refine he.sem _ _ φ G H σ g.w E _ (fun G1 H1 v m g1 r p => ?_) (hx.at g)
  obtain ⟨l, vs, h1, h2, h3, h4, h5, h6⟩ := (E.up g1).ok j _ hρ
  refine ⟨.ref l, h1, ?_⟩
  refine hk.sem _ _ p G1 H1 σ g1.w (E.up g1) _ (fun G2 H2 kv km g2 r2 p2 => ?_) (hx.at (g.trans g1))
  have g12 := g1.trans g2
  obtain ⟨l', vs', h1', h2', h3', h4', h5', h6'⟩ := (E.up g12).ok j _ hρ
  rw [h1] at h1'
  cases h1'
  obtain rfl := kw.out r2
  have hlen := h3'.length
  refine ⟨l, _, rfl, DPut.k h2' (by rw [hlen]; exact p2.1), ?_⟩
  have gm := gr_mut (o := .dK (putK vs' (kw.key km) v)) (g.trans g12) h4' h5' h6' (some_ne h2')
  have es : ∀ a, c.rs.S H2 a → upd H2 l (.dK (putK vs' (kw.key km) v)) a = H2 a := fun a ha => upd_ne fun z => h6' (z ▸ ha)
  refine (hr m km).sem _ _ p2.2 G2 _ σ gm ((E.up g12).mut g12.w hρ rfl h1 h2' h6' (fun a z => by cases z) (x := .md iα (putM xs (kw.key km) m)) ⟨l, putK vs' (kw.key km) v, rfl, upd_same, h3'.put (Rp.mono g2.g r), h4', h5', fun z => h6' (((c.rs.loc g12.w.i es).2 l).mp z)⟩) D (k.up g12.g) hx
/-- k in x, x an own dict -/
theorem e_inD {ke : Expr} {tk : TE} {Φk : Pt κ} [kw : KeyW κ iκ] {xs : List (Key × α)} {px : Pos} (j : Nat) {x : Str} (hρ : ρ[j]? = some (.md iα xs)) (hu : X.A.units + 1 < cLine) (hk : JE X c ke ρ iκ tk Φk) (hN : X.N[j]? = some x := by rfl) (hv : Vis X.env.scope x := by first | exact Or.inl rfl | exact Or.inr (Or.inl rfl) | exact Or.inr (Or.inr rfl))
    (hd : (x == ("__debug__" : Str)) = false := by decide) (hcd : (x == ("__classdict__" : Str)) = false := by decide) (h1 : behindInMarks .In (.Name x px) = false := by rfl) : JE X c (.Compare ke [.In] [.Name x px] pos) ρ rpB (tDIn tk (tVar j)) (fun post ep => Φk (fun k => post (valM xs (kw.key k)).isSome) ep) := by
  refine ⟨pe_cmp (pc_din hu hk.pe (pe_var hN hv hd hcd)) h1, fun post ep φ G H σ w E Q k hx => ?_⟩
  refine hk.sem _ _ φ G H σ w E _ (fun G1 H1 v m g r p => ?_) hx
  obtain ⟨l, vs, h1, h2, h3, h4, h5, h6⟩ := (E.up g).ok j _ hρ
  obtain rfl := kw.out r
  refine ⟨.ref l, h1, l, valV vs (kw.key m), rfl, DGet.k h2, k _ _ _ _ g ?_ p⟩
  rcases h3.val (kw.key m) with ⟨e1, e2⟩ | ⟨v, u, e1, e2, _⟩
  · show V.bl _ = V.bl _
    rw [e1, e2]; rfl
  · show V.bl _ = V.bl _
    rw [e1, e2]; rfl
/-- sorted(x) of an own dict's ints -/
def rSrtD : List V → Hp → VK → Prop := fun xs H Q => ∃ (a : Addr) (kvs : List (Key × V)) (ks : List Int), xs = [.ref a] ∧ Rd H a (.dK kvs) ∧ kvs.map (·.1) = ks.map Sum.inl ∧ ks.length < 64 ∧
    ∀ (ys : List Int) (p : Addr), ys.Perm ks → ys.Pairwise (· ≤ ·) → H p = none → Q (.ref p) (upd H p (.lst (ys.map V.int)))
theorem rp_ints {K : Fg} {G : Hp} : ∀ ns : List Int, RpAll rpI K G (ns.map V.int) ns
  | [] => .nil
  | n :: ns => .cons rfl (rp_ints ns)
theorem e_srtD {xs : List (Key × α)} {p px : Pos} (j : Nat) {x : Str} (hρ : ρ[j]? = some (.md iα xs)) (hc : X.calm = true) (hm : X.mg "sorted" = none) (hN : X.N[j]? = some x := by rfl) (hv : Vis X.env.scope x := by first | exact Or.inl rfl | exact Or.inr (Or.inl rfl) | exact Or.inr (Or.inr rfl))
    (hd : (x == ("__debug__" : Str)) = false := by decide) (hcd : (x == ("__classdict__" : Str)) = false := by decide) (hbv : bootBuiltins "sorted" = some (.builtin "sorted") := by decide +kernel) (hg : Gl X "sorted" := by rfl)
    (he : starEach [.Name x px] X.env = [(false, eval (.Name x px) X.env)] := by rfl) (hpl : (backTo pos (starEach ([] : List Expr) X.env)).any (·.1) = false := by rfl) :
    JE X c (.Call (.Name "sorted" p) [.Name x px] [] pos) ρ (rpL (i := rpI)) (tCB rSrtD (tCons (tVar j) tNil)) (fun post _ => ∃ ks : List Int, xs.map (·.1) = ks.map Sum.inl ∧ ks.length < 64 ∧ ∀ ys : List Int, ys.Perm ks → ys.Pairwise (· ≤ ·) → post ys) := by
  refine ⟨pe_callB (call_sortedDI hc) hg hm hbv (pa_cons (pe_var hN hv hd hcd) pa_nil he) (by decide) (by decide) he hpl, fun post ep φ G H σ w E Q k hx => ?_⟩
  obtain ⟨l, vs, h1, h2, h3, h4, h5, h6⟩ := E.ok j _ hρ
  obtain ⟨ks, e1, e2, φ⟩ := φ
  refine ⟨.ref l, h1, l, vs, ks, rfl, .inl h2, h3.keys.trans e1, e2, fun ys p hp hs hn => ?_⟩
  have gn := gr_new (o := .lst (ys.map V.int)) w hn
  refine k _ _ _ _ gn ⟨p, _, rfl, upd_same, rp_ints ys, ?_⟩ (φ ys hp hs)
  rw [List.length_map, hp.length_eq, sizeLine_eq]
  omega
end
end Ty

set_option Elab.async false
set_option linter.all false
set_option maxRecDepth 100000
set_option maxHeartbeats 1000000
set_option autoImplicit false
/-! Bx: the law's script; the box [[cells], number, seed, count] of the laws k04, k05, k06 as a resource -/
namespace Ty
open PySem PySem.Spec PyProof.Rows L2

/-- the law's script -/
abbrev rpQ : Rp (List Int) := ⟨fun K G v ns => ∃ a, v = .ref a ∧ SqL K G a (ns.map V.int) ∧ ns.length ≤ sizeLine, fun e h => by
  obtain ⟨a, h1, h2, h3⟩ := h
  exact ⟨a, h1, e.sl h2, h3⟩⟩
theorem sl_Q {X : Cx} : SlW X rpQ (rpL (i := rpI)) (rSlL X.K) (fun xs lo hi post _ => post (cutL xs lo hi)) :=
  ⟨sl_list, fun rs G H x a lo hi post ep Q w r φ k => by
    obtain ⟨l, rfl, h1, h3⟩ := r
    refine ⟨l, _, rfl, w.s.sl h1, fun p hp => ?_⟩
    have g := gr_new (o := .lst (cutV (a.map V.int) lo hi)) w hp
    exact k _ _ _ _ g ⟨p, _, rfl, upd_same, RpAll.cut (rp_ints a) lo hi, Nat.le_trans (cutV_length _ _ _) (by rw [List.length_map]; exact h3)⟩ φ⟩

/-! ### the box -/
/-- a new box, known for good -/
abbrev rpBx : Rp Unit := ⟨fun _ G v _ => ∃ (p l : Addr) (x y z : Int) (ns : List Int), v = .ref p ∧ G p = some (.lst [.ref l, .int x, .int y, .int z]) ∧ G l = some (.lst (ns.map V.int)), fun e h => by
  obtain ⟨p, l, x, y, z, ns, h1, h2, h3⟩ := h
  exact ⟨p, l, x, y, z, ns, h1, e _ _ h2, e _ _ h3⟩⟩
theorem ints_of {K : Fg} {G : Hp} : ∀ {vs : List V} {ns : List Int}, RpAll rpI K G vs ns → vs = ns.map V.int
  | _, _, .nil => rfl
  | _, _, .cons h t => by
    rw [List.map_cons, ints_of t]
    have h2 : _ = V.int _ := h
    rw [h2]
theorem three3 {K : Fg} {G : Hp} {vs : List V} {α β γ : Type} {i : Rp α} {j : Rp β} {k : Rp γ} {m : α} {n : β} {o : γ} (h : ArgsOk K G vs [.val i m, .val j n, .val k o]) : ∃ v u z, vs = [v, u, z] ∧ i.rp K G v m ∧ j.rp K G u n ∧ k.rp K G z o := by
  cases h with
  | cons h t =>
    obtain ⟨u, z, rfl, h2, h3⟩ := two2 t
    cases h with
    | val h => exact ⟨_, u, z, rfl, h, h2, h3⟩
theorem e_bx {X : Cx} {c : Cn} {ρ : List Sl} {es : List Expr} {t : TA} {pos : Pos} {Φ : Pt (List Int × Int × Int × Int × Unit)} (h : JA X c es ρ (aCons (rpL (i := rpI)) (aCons rpI (aCons rpI (aCons rpI aNil)))) t Φ) : JE X c (.List es pos) ρ rpBx (tLst t) (fun post ep => Φ (fun _ => post ()) ep) := by
  refine ⟨pe_lst h.pe, fun post ep φ G H σ w E Q k hx => h.sem _ _ φ G H σ w E _ (fun G1 H1 vs x g1 r1 p => ?_) hx⟩
  obtain ⟨xl, x1, x2, x3, u⟩ := x
  cases r1 with
  | cons a r1 =>
    obtain ⟨v1, v2, v3, rfl, rfl, rfl, rfl⟩ := three3 (i := rpI) (j := rpI) (k := rpI) r1
    cases a with
    | val a =>
      obtain ⟨l, ws, rfl, e1, e2, e3⟩ := a
      rw [ints_of e2] at e1
      refine ⟨by rw [sizeLine_eq]; simp, fun q hq => ?_⟩
      have g := gr_new (o := .lst [.ref l, .int x1, .int x2, .int x3]) g1.w hq
      exact k _ _ _ _ (g1.trans g) ⟨q, l, x1, x2, x3, xl, rfl, upd_same, g.g _ _ e1⟩ p

/-- the resource -/
def bxS (q : Addr) (H : Hp) (a : Addr) : Prop := a = q ∨ ∃ t, H q = some (.lst (.ref a :: t))
def bxI (q : Addr) (H : Hp) : Prop := ∃ (l : Addr) (x y z : Int) (ns : List Int), H q = some (.lst [.ref l, .int x, .int y, .int z]) ∧ H l = some (.lst (ns.map V.int))
def rsB (q : Addr) : Rs := ⟨bxS q, bxI q, by
  intro H H' i k
  obtain ⟨l, x, y, z, ns, h1, h2⟩ := i
  have e1 : H' q = H q := k q (.inl rfl)
  have e2 : H' l = H l := k l (.inr ⟨_, h1⟩)
  refine ⟨⟨l, x, y, z, ns, e1.trans h1, e2.trans h2⟩, fun a => ?_⟩
  unfold bxS
  rw [e1], by
  intro H a i s
  obtain ⟨l, x, y, z, ns, h1, h2⟩ := i
  rcases s with rfl | ⟨t, s⟩
  · exact some_ne h1
  · rw [h1] at s
    cases s
    exact some_ne h2⟩
theorem gr_bx {q l : Addr} {G H H' : Hp} {x y z : Int} {ns : List Int} (w : Wd (rsB q) G H) (hq : H' q = some (.lst [.ref l, .int x, .int y, .int z])) (hl : H' l = some (.lst (ns.map V.int))) (hn : bxS q H l ∨ H l = none)
    (keep : ∀ a o, a ≠ q → H a = some o → H' a = some o) : Gr (rsB q) G H G H' := by
  have nG : ∀ a, bxS q H a ∨ H a = none → G a = none := fun a h => by
    rcases h with h | h
    · exact w.n a h
    · cases e : G a with
      | none => rfl
      | some u =>
        have := w.s a u e
        rw [h] at this
        cases this
  have fS : ∀ a, bxS q H' a → bxS q H a ∨ H a = none := fun a s => by
    rcases s with rfl | ⟨t, s⟩
    · exact .inl (.inl rfl)
    · rw [hq] at s
      cases s
      exact hn
  refine ⟨Ex.refl _, fun a o hs e => keep a o (fun z => hs (.inl z)) e, fun a e => ?_, fun a _ h => h, fS, ⟨fun a o e => ?_, ⟨l, x, y, z, ns, hq, hl⟩, fun a s => nG a (fS a s)⟩⟩
  · by_cases z : a = q
    · rw [z]
      exact some_ne hq
    · cases e2 : H a with
      | none => exact absurd e2 e
      | some o => exact some_ne (keep a o z e2)
  · refine keep a o (fun z => ?_) (w.s a o e)
    rw [z, nG q (.inl (.inl rfl))] at e
    cases e
section
variable {X : Cx} {c : Cn} {ρ : List Sl} {q : Addr} {x : Str} {px pk pos : Pos}
/-- box[k] of a number -/
theorem e_bxI {k : Int} {jj : Nat} (j : Nat) (hc : c.rs = rsB q) (hρ : ρ[j]? = some (.rf q)) (hk : k = 1 ∨ k = 2 ∨ k = 3) (hN : X.N[j]? = some x := by rfl) (hv : Vis X.env.scope x := by first | exact Or.inl rfl | exact Or.inr (Or.inl rfl) | exact Or.inr (Or.inr rfl))
    (hd : (x == ("__debug__" : Str)) = false := by decide) (hcd : (x == ("__classdict__" : Str)) = false := by decide) (hs : PlainIxT (.Constant (.int k) jj pk) := by exact fun _ _ => rfl) : JE X c (.Subscript (.Name x px) (.Constant (.int k) jj pk) pos) ρ rpI (tOp (rIxL X.K) (tVar j) (tC (.int k))) (fun post _ => ∀ n : Int, post n) := by
  refine ⟨pe_ix ix_list (pe_var hN hv hd hcd) pe_int hs, fun post ep φ G H σ w E Q kk hx => ?_⟩
  have I := w.i
  rw [hc] at I
  obtain ⟨l, a, b, d, ns, h1, h2⟩ := I
  refine ⟨.ref q, E.ok j _ hρ, ?_⟩
  rcases hk with rfl | rfl | rfl
  · exact ⟨q, _, 1, .int a, rfl, rfl, SqL.of h1, rfl, kk G H _ a (Gr.refl w) rfl (φ a)⟩
  · exact ⟨q, _, 2, .int b, rfl, rfl, SqL.of h1, rfl, kk G H _ b (Gr.refl w) rfl (φ b)⟩
  · exact ⟨q, _, 3, .int d, rfl, rfl, SqL.of h1, rfl, kk G H _ d (Gr.refl w) rfl (φ d)⟩
variable {S L β : Type} {out : S → List Sl} {lp : L → List Sl} {i : Rp β} {rest : List Stmt} {tr : TS} {e : Expr} {te : TE} {Φe : Pt Int} {Φr : Pt (Out S L β)} {ps : Pos}
/-- box[k] = a number -/
theorem b_bxSet {k : Int} {jj : Nat} (j : Nat) (hc : c.rs = rsB q) (hρ : ρ[j]? = some (.rf q)) (hk : k = 1 ∨ k = 2 ∨ k = 3) (he : JE X c e ρ rpI te Φe) (hr : JB X c rest ρ out lp i tr Φr) (hN : X.N[j]? = some x := by rfl) (hv : Vis X.env.scope x := by first | exact Or.inl rfl | exact Or.inr (Or.inl rfl) | exact Or.inr (Or.inr rfl))
    (hd : (x == ("__debug__" : Str)) = false := by decide) (hcd : (x == ("__classdict__" : Str)) = false := by decide)
    (ha : ∀ v, assign (.Subscript (.Name x px) (.Constant (.int k) jj pk) pos) X.env v = (do
      let ov ← holding [v] (eval (.Name x px) X.env)
      let iv ← holding [v, ov] (eval (.Constant (.int k) jj pk) X.env)
      standAt pos
      holding [v, ov, iv] (setItem ov iv v)
      release [v, ov, iv] []) := by intro _; rfl)
    (hs : swapsWithSole [.Subscript (.Name x px) (.Constant (.int k) jj pk) pos] e ps.line X.env = pure false := by rfl) (hw : swappedStores [.Subscript (.Name x px) (.Constant (.int k) jj pk) pos] e X.env = pure none := by rfl)
    (hE : (assignEach [.Subscript (.Name x px) (.Constant (.int k) jj pk) pos] X.env).map (·.2) = [assign (.Subscript (.Name x px) (.Constant (.int k) jj pk) pos) X.env] := by rfl) :
    JB X c (.Assign [.Subscript (.Name x px) (.Constant (.int k) jj pk) pos] e ps :: rest) ρ out lp i (tSeq (tAsg te (gSub (tVar j) (tC (.int k)) rSetL)) tr) (fun post ep => Φe (fun _ => Φr post ep) ep) := by
  refine ⟨pss_cons (ps_asg he.pe (pg_sub (pe_var hN hv hd hcd) pe_int set_list ha) hs hw hE) hr.pe, fun post ep φ G H σ g E D k hx => ?_⟩
  refine he.sem _ _ φ G H σ g.w E _ (fun G1 H1 v m g1 r p => ?_) (hx.at g)
  obtain rfl : v = .int m := r
  have w1 : Wd (rsB q) G1 H1 := hc ▸ g1.w
  obtain ⟨l, a, b, d, ns, h1, h2⟩ := w1.i
  have lq : l ≠ q := fun z => by
    rw [z, h1] at h2
    have h3 := Option.some.inj h2
    injection h3 with h3
    cases ns with
    | nil => cases h3
    | cons n ns => cases h3
  have fin : ∀ a' b' d' : Int, tr D σ (upd H1 q (.lst [.ref l, .int a', .int b', .int d'])) := fun a' b' d' => by
    have gb : Gr c.rs G1 H1 G1 (upd H1 q (.lst [.ref l, .int a', .int b', .int d'])) := hc ▸ gr_bx (l := l) (ns := ns) w1 upd_same (by rw [upd_ne lq]; exact h2) (.inl (.inr ⟨_, h1⟩)) (fun u o z e => by rw [upd_ne z]; exact e)
    exact hr.sem _ _ p _ _ σ ((g.trans g1).trans gb) (E.up (g1.trans gb)) D (k.up (g1.trans gb).g) hx
  refine ⟨.ref q, E.ok j _ hρ, ?_⟩
  rcases hk with rfl | rfl | rfl
  · exact ⟨q, _, 1, 1, rfl, rfl, h1, rfl, fin m b d⟩
  · exact ⟨q, _, 2, 2, rfl, rfl, h1, rfl, fin a m d⟩
  · exact ⟨q, _, 3, 3, rfl, rfl, h1, rfl, fin a b m⟩
end
end Ty

set_option Elab.async false
set_option linter.all false
set_option maxRecDepth 100000
set_option maxHeartbeats 1000000
set_option autoImplicit false
/-! By: the box is taken from; a law that makes its box first -/
namespace Ty
open PySem PySem.Spec PyProof.Rows L2

def tTake (K : Fg) (j : Nat) : TS := tIfS (tAnd (tTest (tOp (rI0 fun i j => .bl (decide (i ≤ j))) (tOp (rIxL K) (tVar j) (tC (.int 1))) (tC (.int 1)))) (tTest (tOp (rNeD K) (tOp (rIxL K) (tVar j) (tC (.int 0))) (tLst tNil))))
  (tSeq (tAsg (tOp (rIxL K) (tOp (rIxL K) (tVar j) (tC (.int 0))) (tC (.int 0))) (gSub (tVar j) (tC (.int 1)) rSetL)) (tAsg (tSl (rSlL K) (tOp (rIxL K) (tVar j) (tC (.int 0))) (tPart (tC (.int 1))) tNoPart) (gSub (tVar j) (tC (.int 0)) rSetL))) tNext
section
variable {X : Cx} {c : Cn} {ρ : List Sl} {q : Addr} {S L β : Type} {out : S → List Sl} {lp : L → List Sl} {i : Rp β} {rest : List Stmt} {st : Stmt} {tr : TS} {Φr : Pt (Out S L β)}
theorem at0 {α : Type} {x : α} {xs : List α} : atI (x :: xs) 0 = some x := by
  unfold atI ixN
  have h : (0 : Int) < ((x :: xs).length : Int) := by rw [List.length_cons]; omega
  rw [if_pos (Int.le_refl 0), if_pos h]
  rfl
theorem cut_ints (ns : List Int) (lo hi : Option Int) : ∃ ms : List Int, cutV (ns.map V.int) lo hi = ms.map V.int :=
  ⟨(ns.drop (HT.sIx (ns.map V.int).length 0 lo)).take (HT.sIx (ns.map V.int).length (ns.map V.int).length hi - HT.sIx (ns.map V.int).length 0 lo), by
    unfold cutV
    rw [List.map_take, List.map_drop]⟩
/-- if box[1] <= 1 and box[0] != []: box[1] = box[0][0]; box[0] = box[0][1:] -/
theorem b_bxTake (j : Nat) (hc : c.rs = rsB q) (hρ : ρ[j]? = some (.rf q)) (hps : PS X st (tTake X.K j)) (hr : JB X c rest ρ out lp i tr Φr) : JB X c (st :: rest) ρ out lp i (tSeq (tTake X.K j) tr) Φr := by
  refine ⟨pss_cons hps hr.pe, fun post ep φ G H σ g E D k hx => ?_⟩
  have w0 : Wd (rsB q) G H := hc ▸ g.w
  obtain ⟨l, a, b, d, ns, h1, h2⟩ := w0.i
  have hv := E.ok j _ hρ
  have hl0 : (ns.map V.int).length = ns.length := List.length_map _
  refine ⟨.ref q, hv, q, _, 1, .int a, rfl, rfl, SqL.of h1, rfl, a, 1, rfl, rfl, decide (a ≤ 1), rfl, ?_⟩
  cases hb : decide (a ≤ 1) with
  | false => exact hr.sem _ _ φ G H σ g E D k hx
  | true =>
    show tTest (tOp (rNeD X.K) (tOp (rIxL X.K) (tVar j) (tC (.int 0))) (tLst tNil)) σ H _
    refine ⟨.ref q, hv, q, _, 0, .ref l, rfl, rfl, SqL.of h1, rfl, Nat.zero_le _, fun p hp => ?_⟩
    have lp' : l ≠ p := fun z => by
      rw [z, hp] at h2
      cases h2
    have qp : q ≠ p := fun z => by
      rw [z, hp] at h1
      cases h1
    have g1 : Gr (rsB q) G H (upd G p (.lst [])) (upd H p (.lst [])) := gr_new w0 hp
    have d1 : Dp X.K (upd H p (.lst [])) (.ref l) (.list (ns.map fun n => PyData.int n)) := .lst (SqL.of (by rw [upd_ne lp']; exact h2)) (by
      have : ∀ ns : List Int, DpAll X.K (upd H p (.lst [])) (ns.map V.int) (ns.map fun n => PyData.int n) := by
        intro ns
        induction ns with
        | nil => exact .nil
        | cons n ns ih => exact .cons (.int n) ih
      exact this ns)
    have e1 : (.list (ns.map fun n => PyData.int n) : PyData) = (datL (i := rpI)).enc ns := rfl
    refine ⟨_, .list [], d1, .lst (SqL.of upd_same) .nil, ?_, by decide, !PyData.eqv (.list (ns.map fun n => PyData.int n)) (.list []), rfl, ?_⟩
    · rw [e1]
      exact shaped_of (d := datL (i := rpI)) (fun _ _ => trivial) (by decide)
    have w1 := g1.w
    have hv1 := hv
    have hq1 : upd H p (.lst []) q = some (.lst [.ref l, .int a, .int b, .int d]) := by rw [upd_ne qp]; exact h1
    have hl1 : upd H p (.lst []) l = some (.lst (ns.map V.int)) := by rw [upd_ne lp']; exact h2
    cases ns with
    | nil =>
      have : PyData.eqv (.list (([] : List Int).map fun n => PyData.int n)) (.list []) = true := by simp [PyData.eqv, PyData.eqvAll]
      rw [this]
      have g1' : Gr c.rs G H (upd G p (.lst [])) (upd H p (.lst [])) := hc ▸ g1
      exact hr.sem _ _ φ _ _ σ (g.trans g1') (E.up g1') D (k.up g1'.g) hx
    | cons n ns =>
      have : PyData.eqv (.list ((n :: ns).map fun n => PyData.int n)) (.list []) = false := by simp [PyData.eqv, PyData.eqvAll]
      rw [this]
      refine ⟨.ref q, hv, q, _, 0, .ref l, rfl, rfl, SqL.of hq1, rfl, l, _, 0, .int n, rfl, rfl, SqL.of hl1, at0, ?_⟩
      refine ⟨.ref q, hv, q, _, 1, 1, rfl, rfl, hq1, rfl, ?_⟩
      have lq : l ≠ q := fun z => by
        rw [z, h1] at h2
        cases h2
      show tAsg (tSl (rSlL X.K) (tOp (rIxL X.K) (tVar j) (tC (.int 0))) (tPart (tC (.int 1))) tNoPart) (gSub (tVar j) (tC (.int 0)) rSetL) { nx := tr D, rt := D.rt, bk := D.bk, ct := D.ct } σ (upd (upd H p (.lst [])) q (.lst [.ref l, .int n, .int b, .int d]))
      have hl2 : upd (upd H p (.lst [])) q (.lst [.ref l, .int n, .int b, .int d]) l = some (.lst ((n :: ns).map V.int)) := by rw [upd_ne lq]; exact hl1
      have g2 : Gr (rsB q) (upd G p (.lst [])) (upd H p (.lst [])) (upd G p (.lst [])) (upd (upd H p (.lst [])) q (.lst [.ref l, .int n, .int b, .int d])) :=
        gr_bx w1 upd_same hl2 (.inl (.inr ⟨_, hq1⟩)) (fun u o z e => by rw [upd_ne z]; exact e)
      refine ⟨.ref q, hv, q, _, 0, .ref l, rfl, rfl, SqL.of upd_same, rfl, 1, rfl, l, _, rfl, SqL.of hl2, fun p2 hp2 => ?_⟩
      obtain ⟨ms, em⟩ := cut_ints (n :: ns) (some 1) none
      rw [em]
      have qp2 : q ≠ p2 := fun z => by
        rw [← z, upd_same] at hp2
        cases hp2
      refine ⟨.ref q, hv, q, _, 0, 0, rfl, rfl, by rw [upd_ne qp2]; exact upd_same, rfl, ?_⟩
      have g3 : Gr (rsB q) (upd G p (.lst [])) (upd (upd H p (.lst [])) q (.lst [.ref l, .int n, .int b, .int d])) (upd G p (.lst []))
          (upd (upd (upd (upd H p (.lst [])) q (.lst [.ref l, .int n, .int b, .int d])) p2 (.lst (ms.map V.int))) q (.lst [.ref p2, .int n, .int b, .int d])) :=
        gr_bx g2.w upd_same (by rw [upd_ne qp2.symm]; exact upd_same) (.inr hp2) (fun u o z e => by
          rw [upd_ne z]
          by_cases y : u = p2
          · rw [y, hp2] at e
            cases e
          · rw [upd_ne y]
            exact e)
      have g123 := (g1.trans g2).trans g3
      have g' : Gr c.rs G H (upd G p (.lst [])) (upd (upd (upd (upd H p (.lst [])) q (.lst [.ref l, .int n, .int b, .int d])) p2 (.lst (ms.map V.int))) q (.lst [.ref p2, .int n, .int b, .int d])) := hc ▸ g123
      exact hr.sem _ _ φ _ _ σ (g.trans g') (E.up g') D (k.up g'.g) hx
end

/-! ### a law that makes its box first -/
theorem en_none {K : Fg} {rs : Rs} {H0 G H : Hp} {σ : L2.St} {n : Nat} (h : σ.length = n) : En K rs H0 G H σ (List.replicate n .no) := by
  have no : ∀ (i : Nat) (x : Sl), (List.replicate n Sl.no)[i]? = some x → x = .no := fun i x e => List.eq_of_mem_replicate (List.mem_of_getElem? e)
  refine ⟨by simp [h], fun i x e => ?_, fun i j x y l ne e1 e2 o1 o2 s1 s2 => ?_⟩
  · rw [no i x e]
    trivial
  · rw [no i x e1] at o1
    cases o1
def asgE : Stmt → Expr
  | .Assign _ e _ => e
  | _ => .Constant .none 0 ⟨0, 0, 0, 0⟩
def spL (K : Fg) (n : Nat) : Sp := fun vs H Q _ => ∃ (a : Addr) (ns : List Int), vs = [.ref a] ∧ SqL K H a (ns.map V.int) ∧ ns.length ≤ n ∧ Only H ∧ ∀ H', Q (.bl true) H'
theorem fn_okBx {P : Program} {w : World} {K : Fg} {mg : Str → Option Value} {base : Heap} {x qual : Str} {params : Arguments} {body rest : List Stmt} {s1 : Stmt} {scope : Scope} {f : Addr} {fd : FuncData} {N : List Str} {k n : Nat} {dvs : List V} {kws : List (Str × V)}
    (F : FunD K x qual params body scope dvs kws f fd) (hbd : body = s1 :: rest) (S : FnScope N ["script"] scope) (hn : n ≤ sizeLine) {Φr : Pt (Out Unit Empty Bool)} {Φe : List Int → Pt Unit}
    (hb1 : ∀ (cdv : Value) (A : Around) (outer : List Env) (s : Shared) (H : Hp) (E : XK), Room k (A.deeper (envOfC qual scope s.heap.objs.size f cdv)) →
      ∃ te, PS (Cf P w K mg base N qual scope f cdv A outer s H E) s1 (tAsg te (gName 1)) ∧ (∀ ns : List Int, JE (Cf P w K mg base N qual scope f cdv A outer s H E) (Cc rs0 H H E) (asgE s1) (.val rpQ ns :: List.replicate (N.length - 1) .no) rpBx te (Φe ns)))
    (hb2 : ∀ (cdv : Value) (A : Around) (outer : List Env) (s : Shared) (H : Hp) (E : XK), Room k (A.deeper (envOfC qual scope s.heap.objs.size f cdv)) →
      ∃ tr, ∀ (p : Addr) (H' : Hp), JB (Cf P w K mg base N qual scope f cdv A outer s H E) (Cc (rsB p) H H' E) rest ((List.replicate N.length Sl.no).set 1 (.rf p)) (fun _ : Unit => List.replicate N.length .no) (fun z : Empty => nomatch z) rpB tr Φr)
    (hΦe : ∀ ns, Φe ns (fun _ => True) (fun _ => False)) (hΦ : Φr (endP False fun b => b = true) (fun _ => False)) : FnOk P w K mg base (L2.CX P w) (k + 1) f fd ["script"] (spL K n) := by
  refine F.ok S (fun vs H Q E h => ?_) (fun cdv A outer s H vs Q E hr h => ?_)
  · obtain ⟨a, ns, rfl, _⟩ := h
    rfl
  · obtain ⟨a, ns, rfl, hS, hl, hO, hQ⟩ := h
    obtain ⟨te, hs, h1⟩ := hb1 cdv A outer s H E hr
    obtain ⟨tr, h2⟩ := hb2 cdv A outer s H E hr
    refine ⟨tSeq (tAsg te (gName 1)) tr, by rw [hbd]; exact pss_cons hs (h2 0 H).pe, ?_⟩
    have w0 : Wd rs0 H H := ⟨Ex.refl _, trivial, fun _ h => h.elim⟩
    have e0 : En K rs0 H H H (start N [.ref a]) (.val rpQ ns :: List.replicate (N.length - 1) .no) :=
      en_args (rs := rs0) (H0 := H) (H := H) (as := [.val rpQ ns]) (.cons (.val ⟨a, rfl, hS, Nat.le_trans hl hn⟩) .nil) (N.length - 1)
    refine (h1 ns).sem (fun _ => True) (fun _ => False) (hΦe ns) H H _ w0 e0 _ (fun G1 H1 v m g r _ => ?_) (fun _ _ _ _ _ _ _ z => z.elim)
    obtain ⟨p, l, a1, a2, a3, ms, rfl, p1, p2⟩ := r
    have fresh : ∀ b o, G1 b = some (.lst o) → H b = none := fun b o e => by
      rcases hO b with h | ⟨u, xs, h⟩
      · exact h
      · have := g.g b _ h
        rw [e] at this
        cases this
    have q1 := g.w.s _ _ p1
    have w2 : Wd (rsB p) H H1 := ⟨fun b o e => g.h b o (fun z => z) e, ⟨l, a1, a2, a3, ms, q1, g.w.s _ _ p2⟩, fun b s => by
      rcases s with rfl | ⟨t, s⟩
      · exact fresh _ _ p1
      · rw [q1] at s
        cases s
        exact fresh _ _ p2⟩
    have hlen : (start N [V.ref a]).length = N.length := by
      rw [e0.len]
      have hN : N.take 1 = [(Str.ofString "script")] := S.pre
      have : 1 ≤ N.length := by
        have := congrArg List.length hN
        simp at this
        omega
      simp
      omega
    refine (h2 p H1).sem _ _ hΦ H H1 _ (Gr.refl w2) ((en_none hlen).set (x := .rf p) rfl rfl) _ ⟨?_, ?_, ?_, ?_⟩ ?_
    · exact fun G' H' σ' s' g _ _ p => p.elim
    · intro G' H' v b g _ r pb
      obtain rfl : v = .bl b := r
      have pb : b = true := pb
      rw [pb]
      exact hQ H'
    · exact fun G' H' σ' l g _ _ p => p.elim
    · exact fun G' H' σ' l g _ _ p => p.elim
    · exact fun G' H' σ' cls d e g r p => p.elim
end Ty

set_option Elab.async false
set_option linter.all false
set_option maxRecDepth 100000
set_option maxHeartbeats 1000000
set_option autoImplicit false
/-! Ty, part J: min, max of tuples; loops by invariants -/
namespace Ty
open PySem PySem.Spec PyProof.Rows L2
theorem alike_int (i j : Int) : PySem.W.alike (.int i) (.int j) = true := by first | rfl | simp [PySem.W.alike]
theorem alikeAll_int : ∀ ns : List Int, PySem.W.AlikeAll (ns.map PyData.int) := fun ns => by
  constructor
  · intro x hx y hy
    obtain ⟨i, _, rfl⟩ := List.mem_map.mp hx
    obtain ⟨j, _, rfl⟩ := List.mem_map.mp hy
    exact alike_int i j
  · intro x hx
    obtain ⟨i, _, rfl⟩ := List.mem_map.mp hx
    exact fun z => nomatch z
theorem dpInts {K : Fg} {H : Hp} : ∀ ns : List Int, DpAll K H (ns.map V.int) (ns.map PyData.int)
  | [] => .nil
  | n :: ns => .cons (.int n) (dpInts ns)
theorem depInts : ∀ ns : List Int, PyData.depthAll (ns.map PyData.int) = 0
  | [] => by simp [PyData.depthAll]
  | n :: ns => by
    rw [List.map_cons]
    simp only [PyData.depthAll, depInts ns, PyData.depth]
    rfl
abbrev rMaxT (K : Fg) : List V → Hp → VK → Prop := fun vs H Q => ∃ (a : Addr) (n : Int) (ns : List Int), vs = [.ref a] ∧ SqT K H a ((n :: ns).map V.int) ∧ Q (.int (ns.foldl max n)) H
abbrev rMinT (K : Fg) : List V → Hp → VK → Prop := fun vs H Q => ∃ (a : Addr) (n : Int) (ns : List Int), vs = [.ref a] ∧ SqT K H a ((n :: ns).map V.int) ∧ Q (.int (ns.foldl min n)) H
section
variable {X : Cx}
theorem cr_maxT (hc : X.calm = true) (hu : X.A.units + 64 < cLine) : CallR X (.builtin "max") (rMaxT X.K) := by
  intro pins s σ H vs us Q I r h
  obtain ⟨a, n, ns, rfl, hs, q⟩ := h
  obtain ⟨its, rv, hl, _⟩ := I.tuple hs
  rw [Vals.ref1 r]
  obtain ⟨as, hr⟩ := Dp.readsAll I _ _ its (dpInts (n :: ns)) rv
  have hd := depInts (n :: ns)
  refine PySem.W.max_tuple_data (x := .int n) (xs := ns.map PyData.int) (I.ok.hd hc) (show s.heap.IsTuple a its.toArray from hl) hr (alikeAll_int (n :: ns)) (by rw [show PyData.int n :: ns.map PyData.int = (n :: ns).map PyData.int from rfl, hd]; omega) fun i v h' tk bs hi hv hk => ?_
  rw [PySem.W.maxD_ints] at hv
  cases hv
  exact ⟨.int _, H, I.kept hk, ⟨_, rfl⟩, q⟩
theorem cr_minT (hc : X.calm = true) (hu : X.A.units + 64 < cLine) : CallR X (.builtin "min") (rMinT X.K) := by
  intro pins s σ H vs us Q I r h
  obtain ⟨a, n, ns, rfl, hs, q⟩ := h
  obtain ⟨its, rv, hl, _⟩ := I.tuple hs
  rw [Vals.ref1 r]
  obtain ⟨as, hr⟩ := Dp.readsAll I _ _ its (dpInts (n :: ns)) rv
  have hd := depInts (n :: ns)
  refine PySem.W.min_tuple_data (x := .int n) (xs := ns.map PyData.int) (I.ok.hd hc) (show s.heap.IsTuple a its.toArray from hl) hr (alikeAll_int (n :: ns)) (by rw [show PyData.int n :: ns.map PyData.int = (n :: ns).map PyData.int from rfl, hd]; omega) fun i v h' tk bs hi hv hk => ?_
  rw [PySem.W.minD_ints] at hv
  cases hv
  exact ⟨.int _, H, I.kept hk, ⟨_, rfl⟩, q⟩
theorem max_P (hc : X.calm = true) (hu : X.A.units + 64 < cLine) : CallW X (.builtin "max") (aCons (rp2 (i := rpI) (j := rpI)) aNil) rpI (rMaxT X.K) (fun x post _ => post (max x.1.1 x.1.2)) :=
  ⟨cr_maxT hc hu, fun rs G H vs x post ep Q w ha φ k => by
    obtain ⟨v, rfl, a, u, z, rfl, h1, h2, h3⟩ := one1 ha
    obtain rfl : u = V.int x.1.1 := h2
    obtain rfl : z = V.int x.1.2 := h3
    exact ⟨a, x.1.1, [x.1.2], rfl, w.s.st h1, k G H _ _ (Gr.refl w) rfl φ⟩⟩
theorem min_P (hc : X.calm = true) (hu : X.A.units + 64 < cLine) : CallW X (.builtin "min") (aCons (rp2 (i := rpI) (j := rpI)) aNil) rpI (rMinT X.K) (fun x post _ => post (min x.1.1 x.1.2)) :=
  ⟨cr_minT hc hu, fun rs G H vs x post ep Q w ha φ k => by
    obtain ⟨v, rfl, a, u, z, rfl, h1, h2, h3⟩ := one1 ha
    obtain rfl : u = V.int x.1.1 := h2
    obtain rfl : z = V.int x.1.2 := h3
    exact ⟨a, x.1.1, [x.1.2], rfl, w.s.st h1, k G H _ _ (Gr.refl w) rfl φ⟩⟩
end
/-! ### loops by invariants -/
theorem forP_ind {α S β : Type} {Φb : α → S → Pt (Out S S β)} {fin : S → Prop} {rt : β → Prop} {ep : Exn → Prop} (Inv : List α → S → Prop) (hnil : ∀ s, Inv [] s → fin s)
    (hcons : ∀ x r s (next : S → Prop), (∀ s', Inv r s' → next s') → Inv (x :: r) s → Φb x s (fun
      | .nx s' => next s'
      | .ct s' => next s'
      | .bk s' => fin s'
      | .rt b => rt b) ep) : ∀ xs s, Inv xs s → forP Φb fin rt ep xs s := by
  intro xs
  induction xs with
  | nil => exact fun s h => hnil s h
  | cons x r ih => exact fun s h => hcons x r s (fun s' => forP Φb fin rt ep r s') ih h
theorem lcP_ind {α β : Type} {Φt : α → Pt Bool} {Φe : α → Pt β} {post : List β → Prop} (Inv : List α → List β → Prop) (hnil : ∀ acc, Inv [] acc → post acc)
    (hcons : ∀ x r acc (next : List β → Prop), (∀ acc', Inv r acc' → next acc') → Inv (x :: r) acc → Φt x (fun k => if k = true then Φe x (fun y => next (acc ++ [y])) (fun _ => False) else next acc) (fun _ => False)) :
    ∀ xs acc, Inv xs acc → lcP Φt Φe post xs acc := by
  intro xs
  induction xs with
  | nil => exact fun s h => hnil s h
  | cons x r ih => exact fun acc h => hcons x r acc (fun acc' => lcP Φt Φe post r acc') ih h
/-- a comprehension is a filter and a map -/
theorem lcP_eq {α β : Type} {Φt : α → Pt Bool} {Φe : α → Pt β} {post : List β → Prop} (f : α → Bool) (g : α → β) (xs : List α) (ht : ∀ x ∈ xs, ∀ (P : Bool → Prop) ep, P (f x) → Φt x P ep) (he : ∀ x ∈ xs, f x = true → ∀ (P : β → Prop) ep, P (g x) → Φe x P ep) (h : post ((xs.filter f).map g)) : lcP Φt Φe post xs [] := by
  refine lcP_ind (fun ys acc => (∀ x ∈ ys, x ∈ xs) ∧ post (acc ++ (ys.filter f).map g)) (fun acc h => by simpa using h.2) (fun x r acc next hn hi => ?_) xs [] ⟨fun _ h => h, by simpa using h⟩
  obtain ⟨h1, h2⟩ := hi
  have hr : ∀ y ∈ r, y ∈ xs := fun y hy => h1 y (List.mem_cons_of_mem _ hy)
  refine ht x (h1 x List.mem_cons_self) _ _ ?_
  cases hf : f x with
  | true =>
    rw [if_pos rfl]
    refine he x (h1 x List.mem_cons_self) hf _ _ (hn _ ⟨hr, ?_⟩)
    rw [List.filter_cons, hf] at h2
    simpa using h2
  | false =>
    rw [if_neg (by simp)]
    refine hn _ ⟨hr, ?_⟩
    rw [List.filter_cons, hf] at h2
    simpa using h2
theorem _root_.L2.Room.u1 {k : Nat} {A : PySem.Around} (hr : L2.Room k A) : A.units + 1 < PySem.cLine := by
  have := hr.units
  omega
theorem JE.conv {X : Cx} {c : Cn} {e : Expr} {ρ : List Sl} {α : Type} {i : Rp α} {t t' : TE} {Φ Φ' : Pt α} (h : JE X c e ρ i t Φ) (ht : t = t') (hf : Φ = Φ') : JE X c e ρ i t' Φ' := ht ▸ hf ▸ h
theorem JB.conv {X : Cx} {c : Cn} {ss : List Stmt} {ρ : List Sl} {S L β : Type} {out : S → List Sl} {lp : L → List Sl} {i : Rp β} {t t' : TS} {Φ Φ' : Pt (Out S L β)} (h : JB X c ss ρ out lp i t Φ) (ht : t = t') (hf : Φ = Φ') : JB X c ss ρ out lp i t' Φ' := ht ▸ hf ▸ h
theorem JTs.conv {X : Cx} {c : Cn} {es : List Expr} {ρ : List Sl} {t t' : TT} {Φ Φ' : Pt Bool} (h : JTs X c es ρ t Φ) (ht : t = t') (hf : Φ = Φ') : JTs X c es ρ t' Φ' := ht ▸ hf ▸ h
/-- two ways that meet -/
theorem seq_if {S1 S L β : Type} {b : Bool} {Φr : S1 → Pt (Out S L β)} {post : Out S L β → Prop} {ep : Exn → Prop} {x y : S1} (Q : S1 → Prop) (hx : b = true → Q x) (hy : b = false → Q y) (h : ∀ z, Q z → Φr z post ep) : if b = true then seqP Φr post ep (.nx x) else seqP Φr post ep (.nx y) := by
  cases b with
  | true => exact h x (hx rfl)
  | false => exact h y (hy rfl)
theorem two_no {P1 P2 X Y N : Prop} (h1 : P1) (h2 : P2) (hn : N) : P1 ∧ (if (!true) = true then X else P2 ∧ if (!true) = true then Y else N) := ⟨h1, by
  rw [if_neg (by simp)]
  exact ⟨h2, by
    rw [if_neg (by simp)]
    exact hn⟩⟩
theorem seq_nx {S1 S L β : Type} {Φr : S1 → Pt (Out S L β)} {post : Out S L β → Prop} {ep : Exn → Prop} {x : S1} (h : Φr x post ep) : seqP Φr post ep (.nx x) := h
end Ty

set_option Elab.async false
set_option linter.all false
set_option maxRecDepth 100000
set_option maxHeartbeats 1000000
set_option autoImplicit false
/-! Ty, part K: values seen otherwise (up, down), numbers and texts in one tuple -/
namespace Ty
open PySem PySem.Spec PyProof.Rows L2
section
variable {X : Cx} {c : Cn} {ρ : List Sl} {α β : Type} {iα : Rp α} {iβ : Rp β} {e : Expr} {te : TE} {Φ : Pt α}
/-- what stands for m stands for f m -/
def UpW (iα : Rp α) (iβ : Rp β) (f : α → β) : Prop := ∀ (K : Fg) (G : Hp) (v : V) (m : α), iα.rp K G v m → iβ.rp K G v (f m)
theorem e_up {f : α → β} (h : UpW iα iβ f) (he : JE X c e ρ iα te Φ) : JE X c e ρ iβ te (fun post ep => Φ (fun m => post (f m)) ep) :=
  ⟨he.pe, fun post ep φ G H σ w E Q k hx => he.sem _ _ φ G H σ w E Q (fun G1 H1 v m g r p => k G1 H1 v (f m) g (h _ _ _ _ r) p) hx⟩
/-- what stands for f m stands for m -/
theorem e_dn {f : β → α} (h : ∀ (K : Fg) (G : Hp) (v : V) (m : β), iα.rp K G v (f m) → iβ.rp K G v m) (he : JE X c e ρ iα te Φ) : JE X c e ρ iβ te (fun post ep => Φ (fun m => ∃ x, m = f x ∧ post x) ep) :=
  ⟨he.pe, fun post ep φ G H σ w E Q k hx => he.sem _ _ φ G H σ w E Q (fun G1 H1 v m g r ⟨x, ex, p⟩ => k G1 H1 v x g (h _ _ _ _ (ex ▸ r)) p) hx⟩
end
/-- a number or a text -/
inductive Itm where
  | i (n : Int)
  | s (x : Str)
deriving DecidableEq
def Itm.v : Itm → V
  | .i n => .int n
  | .s x => .str x
abbrev rpU : Rp Itm := ⟨fun _ _ v m => v = m.v, fun _ h => h⟩
theorem upI : UpW rpI rpU Itm.i := fun _ _ _ _ h => h
theorem upS : UpW rpS rpU Itm.s := fun _ _ _ _ h => h
theorem dnI (K : Fg) (G : Hp) (v : V) (m : Int) (h : rpU.rp K G v (.i m)) : rpI.rp K G v m := h
theorem dnS (K : Fg) (G : Hp) (v : V) (m : Str) (h : rpU.rp K G v (.s m)) : rpS.rp K G v m := h
instance : Sc Itm rpU := ⟨fun {K G x y a b} h1 h2 => by
  obtain rfl : x = a.v := h1
  obtain rfl : y = b.v := h2
  cases a <;> cases b <;> exact ⟨rfl, by simp [Itm.v]⟩⟩
instance : BEq Itm := ⟨fun a b => eqV a.v b.v⟩
instance : Flat Itm rpU := ⟨fun {K G x y a b} h1 h2 => by
  obtain rfl : x = a.v := h1
  obtain rfl : y = b.v := h2
  cases a <;> cases b <;> exact ⟨rfl, rfl⟩⟩
instance : Dat Itm rpU := ⟨fun
  | .i n => .int n
  | .s x => .str x, fun
  | .i _ => True
  | .s x => PyData.strOk x = true, 0, fun {K G v m} h => by
  obtain rfl : v = m.v := h
  cases m with
  | i n => exact .int n
  | s x => exact .str x, fun {m} h => by
  cases m with
  | i n => rfl
  | s x => simpa [PyData.canLay0] using h, fun m => by cases m <;> simp [PyData.depth]⟩
instance : DatE Itm rpU := ⟨fun a b => by
  cases a <;> cases b
  · show PyData.eqv (.int _) (.int _) = _
    simp [PyData.eqv, Bool.beq_eq_decide_eq]
  · show PyData.eqv (.int _) (.str _) = _
    simp [PyData.eqv]
  · show PyData.eqv (.str _) (.int _) = _
    simp [PyData.eqv]
  · show PyData.eqv (.str _) (.str _) = _
    simp [PyData.eqv, Bool.beq_eq_decide_eq]⟩
section
variable {X : Cx} {c : Cn} {ρ : List Sl} {α : Type} {iα : Rp α} {pos : Pos}
/-- isinstance(x, str), isinstance(x, int) of such a value -/
theorem isiU_S : CallW X (.builtin "isinstance") (as2 rpU (rpC (.ty "str"))) rpB (rIsi X.K) (fun x post _ => post (match x.1 with | .s _ => true | .i _ => false)) :=
  ⟨call_isi, fun rs G H vs x post ep Q w ha φ k => by
    obtain ⟨v, v2, rfl, h1, h2⟩ := two2 ha
    obtain rfl : v2 = .ty "str" := h2
    obtain ⟨m, x2⟩ := x
    obtain rfl : v = m.v := h1
    cases m with
    | i n => exact ⟨_, _, .type "int", .type "str", false, rfl, .ty _, .base (.int n), kit_ty (by decide +kernel), k G H _ _ (Gr.refl w) rfl φ⟩
    | s z => exact ⟨_, _, .type "str", .type "str", true, rfl, .ty _, .base (.str z), kit_ty (by decide +kernel), k G H _ _ (Gr.refl w) rfl φ⟩⟩
theorem isiU_I : CallW X (.builtin "isinstance") (as2 rpU (rpC (.ty "int"))) rpB (rIsi X.K) (fun x post _ => post (match x.1 with | .s _ => false | .i _ => true)) :=
  ⟨call_isi, fun rs G H vs x post ep Q w ha φ k => by
    obtain ⟨v, v2, rfl, h1, h2⟩ := two2 ha
    obtain rfl : v2 = .ty "int" := h2
    obtain ⟨m, x2⟩ := x
    obtain rfl : v = m.v := h1
    cases m with
    | i n => exact ⟨_, _, .type "int", .type "int", true, rfl, .ty _, .base (.int n), kit_ty (by decide +kernel), k G H _ _ (Gr.refl w) rfl φ⟩
    | s z => exact ⟨_, _, .type "str", .type "int", false, rfl, .ty _, .base (.str z), kit_ty (by decide +kernel), k G H _ _ (Gr.refl w) rfl φ⟩⟩
theorem isiU_B : CallW X (.builtin "isinstance") (as2 rpU (rpC (.ty "bool"))) rpB (rIsi X.K) (fun x post _ => post false) :=
  ⟨call_isi, fun rs G H vs x post ep Q w ha φ k => by
    obtain ⟨v, v2, rfl, h1, h2⟩ := two2 ha
    obtain rfl : v2 = .ty "bool" := h2
    obtain ⟨m, x2⟩ := x
    obtain rfl : v = m.v := h1
    cases m with
    | i n => exact ⟨_, _, .type "int", .type "bool", false, rfl, .ty _, .base (.int n), kit_ty (by decide +kernel), k G H _ _ (Gr.refl w) rfl φ⟩
    | s z => exact ⟨_, _, .type "str", .type "bool", false, rfl, .ty _, .base (.str z), kit_ty (by decide +kernel), k G H _ _ (Gr.refl w) rfl φ⟩⟩
/-- a tuple display of alike items -/
theorem e_tupT {es : List Expr} {k0 : Nat} {ι : Type} {as : ι → List Sl} {f : ι → List α} {t : TA} {Φ : Pt ι} (h : JA X c es ρ as t Φ) (ha : AllA iα as f) : JE X c (.Tuple es k0 pos) ρ (rpT (i := iα)) (tTup t) (fun post ep => Φ (fun x => (f x).length ≤ sizeLine ∧ post ⟨f x⟩) ep) := by
  refine ⟨pe_tup h.pe, fun post ep φ G H σ w E Q k hx => h.sem _ _ φ G H σ w E _ (fun G1 H1 vs x g1 r1 p => ?_) hx⟩
  have r := ha.out r1
  have hz : vs.length ≤ sizeLine := by rw [r.length]; exact p.1
  refine ⟨hz, fun q hq => ?_⟩
  have g := gr_new (o := .tup vs) g1.w hq
  exact k _ _ _ _ (g1.trans g) ⟨q, vs, rfl, SqT.of upd_same, r.mono g.g, hz⟩ p.2
end
section
variable {X : Cx} {α : Type} {i : Rp α}
/-- tuples one behind another -/
theorem add_T : OpW X (binaryOp .Add) (rpT (i := i)) (rpT (i := i)) (rpT (i := i)) (rCatA X.K) (fun a b post _ => a.l.length + b.l.length ≤ sizeLine ∧ post ⟨a.l ++ b.l⟩) :=
  ⟨op_catA, fun rs G H x y a b post ep Q w hx hy φ k => by
    obtain ⟨l, vs, rfl, h1, h2, h3⟩ := hx
    obtain ⟨l', us, rfl, h4, h5, h6⟩ := hy
    have e1 := h2.length
    have e2 := h5.length
    have hz : vs.length + us.length ≤ sizeLine := by rw [e1, e2]; exact φ.1
    refine ⟨l, l', vs, us, rfl, rfl, w.s.st h1, w.s.st h4, hz, fun e => ?_, fun _ e => ?_, fun _ _ p hp => ?_⟩
    · subst e
      have : a.l = [] := List.eq_nil_of_length_eq_zero (by rw [← e1]; rfl)
      exact k G H _ _ (Gr.refl w) ⟨l', us, rfl, h4, by rw [this]; exact h5, h6⟩ φ.2
    · subst e
      have : b.l = [] := List.eq_nil_of_length_eq_zero (by rw [← e2]; rfl)
      exact k G H _ _ (Gr.refl w) ⟨l, vs, rfl, h1, by rw [this, List.append_nil]; exact h2, h3⟩ φ.2
    · have g := gr_new (o := .tup (vs ++ us)) w hp
      exact k _ _ _ _ g ⟨p, vs ++ us, rfl, SqT.of upd_same, (h2.append h5).mono g.g, by rw [List.length_append]; exact hz⟩ φ.2⟩
/-- a list, n times -/
theorem rp_flat {K : Fg} {G : Hp} {vs : List V} {ms : List α} (h : RpAll i K G vs ms) : ∀ n : Nat, RpAll i K G (List.replicate n vs).flatten (List.replicate n ms).flatten
  | 0 => .nil
  | n + 1 => by
    rw [List.replicate_succ, List.replicate_succ, List.flatten_cons, List.flatten_cons]
    exact h.append (rp_flat h n)
theorem len_flat {β : Type} (xs : List β) : ∀ n : Nat, (List.replicate n xs).flatten.length = xs.length * n
  | 0 => rfl
  | n + 1 => by
    rw [List.replicate_succ, List.flatten_cons, List.length_append, len_flat xs n, Nat.mul_succ]
    omega
theorem mul_L : OpW X (binaryOp .Mult) (rpL (i := i)) rpI (rpL (i := i)) rRep (fun a b post _ => (-(2 ^ 63) ≤ b ∧ b < 2 ^ 63 ∧ a.length * b.toNat ≤ sizeLine) ∧ post (List.replicate b.toNat a).flatten) :=
  ⟨op_rep, fun rs G H x y a b post ep Q w hx hy φ k => by
    obtain ⟨l, vs, rfl, h1, h2, h3⟩ := hx
    have e1 := h2.length
    refine ⟨l, b, vs, rfl, hy, w.s _ _ h1, φ.1.1, φ.1.2.1, by rw [e1]; exact φ.1.2.2, fun p hp => ?_⟩
    have g := gr_new (o := .lst (List.replicate b.toNat vs).flatten) w hp
    exact k _ _ _ _ g ⟨p, _, rfl, upd_same, (rp_flat h2 _).mono g.g, by rw [len_flat, e1]; exact φ.1.2.2⟩ φ.2⟩
/-- one sign in a text -/
abbrev rInSg : R2 := fun x y H Q => ∃ (c : Nat) (z : Str), x = .str ⟨#[c]⟩ ∧ y = .str z ∧ Q (.bl (decide (c ∈ z.cps.toList))) H
theorem in_Sg : OpW X (compareOp .In) rpS rpS rpB rInSg (fun a b post _ => ∃ c : Nat, a = ⟨#[c]⟩ ∧ post (decide (c ∈ b.cps.toList))) :=
  ⟨op_in_sign, fun rs G H x y a b post ep Q w hx hy φ k => by
    obtain ⟨c, rfl, p⟩ := φ
    exact ⟨c, b, hx, hy, k G H _ _ (Gr.refl w) rfl p⟩⟩
theorem t_str {c : Cn} {ρ : List Sl} {a : Expr} {ta : TE} {Φa : Pt Str} (ha : JE X c a ρ rpS ta Φa) (he : ∀ whole, isTrue a X.env whole = (do let v ← whole; standAt a.pos; holding [v] (truthy v)) := by intro _; rfl) :
    JT X c a ρ (fun σ H Q => ta σ H fun x H' => ∃ k, TruV X.K x H' k ∧ Q k H') (fun post ep => Φa (fun x => x.length ≤ sizeLine ∧ post ((x.length : Int) != 0)) ep) :=
  ⟨pt_truth ha.pe he, fun post ep φ G H σ w E Q k hx => ha.sem _ _ φ G H σ w E _ (fun G1 H1 v1 m1 g1 r1 p => ⟨(m1.length : Int) != 0, by
    obtain rfl : v1 = .str m1 := r1
    exact ⟨p.1, rfl⟩, k G1 H1 _ g1 p.2⟩) hx⟩
/-- own lists: truth, items, len -/
theorem t_ml {c : Cn} {ρ : List Sl} {j : Nat} {x : Str} {pos : Pos} {xs : List α} (hρ : ρ[j]? = some (.ml i xs)) (hN : X.N[j]? = some x := by rfl) (hv : Vis X.env.scope x := by first | exact Or.inl rfl | exact Or.inr (Or.inl rfl) | exact Or.inr (Or.inr rfl))
    (hd : (x == ("__debug__" : Str)) = false := by decide) (hcd : (x == ("__classdict__" : Str)) = false := by decide) (he : ∀ whole, isTrue (.Name x pos) X.env whole = (do let v ← whole; standAt (Expr.Name x pos).pos; holding [v] (truthy v)) := by intro _; rfl) :
    JT X c (.Name x pos) ρ (fun σ H Q => tVar j σ H fun x H' => ∃ k, TruV X.K x H' k ∧ Q k H') (fun post _ => post (!xs.isEmpty)) :=
  ⟨pt_truth (pe_var hN hv hd hcd) he, fun post ep φ G H σ w E Q k hx => by
    obtain ⟨l, vs, h1, h2, h3, h4, h5, h6⟩ := E.ok j _ hρ
    exact ⟨.ref l, h1, !xs.isEmpty, .inl ⟨vs, SqL.of h2, by rw [emp h3]⟩, k G H _ (Gr.refl w) φ⟩⟩
theorem e_ixM {c : Cn} {ρ : List Sl} {j : Nat} {x : Str} {px pos : Pos} {b : Expr} {tb : TE} {Φb : Pt Int} {xs : List α} (hρ : ρ[j]? = some (.ml i xs)) (hb : JE X c b ρ rpI tb Φb) (hN : X.N[j]? = some x := by rfl) (hv : Vis X.env.scope x := by first | exact Or.inl rfl | exact Or.inr (Or.inl rfl) | exact Or.inr (Or.inr rfl))
    (hd : (x == ("__debug__" : Str)) = false := by decide) (hcd : (x == ("__classdict__" : Str)) = false := by decide) (hs : PlainIxT b := by exact fun _ _ => rfl) :
    JE X c (.Subscript (.Name x px) b pos) ρ i (tOp (rIxL X.K) (tVar j) tb) (fun post ep => Φb (fun k => ∃ m, atI xs k = some m ∧ post m) ep) := by
  refine ⟨pe_ix ix_list (pe_var hN hv hd hcd) hb.pe hs, fun post ep φ G H σ w E Q kk hx => ?_⟩
  obtain ⟨l, vs, h1, _⟩ := E.ok j _ hρ
  refine ⟨.ref l, h1, hb.sem _ _ φ G H σ w E _ (fun G1 H1 v m g r ⟨z, e, p⟩ => ?_) hx⟩
  obtain ⟨l', vs', h1', h2', h3', _⟩ := (E.up g).ok j _ hρ
  rw [h1] at h1'
  cases h1'
  obtain ⟨u, e1, r1⟩ := h3'.at e
  exact ⟨l, vs', m, u, rfl, r, SqL.of h2', e1, kk G1 H1 u z g r1 p⟩
theorem e_lenM {c : Cn} {ρ : List Sl} {j : Nat} {x : Str} {p px pos : Pos} {xs : List α} (hρ : ρ[j]? = some (.ml i xs)) (hm : X.mg "len" = none) (hN : X.N[j]? = some x := by rfl) (hv : Vis X.env.scope x := by first | exact Or.inl rfl | exact Or.inr (Or.inl rfl) | exact Or.inr (Or.inr rfl))
    (hd : (x == ("__debug__" : Str)) = false := by decide) (hcd : (x == ("__classdict__" : Str)) = false := by decide) (hbv : bootBuiltins "len" = some (.builtin "len") := by decide +kernel) (hg : Gl X "len" := by rfl)
    (he : starEach [.Name x px] X.env = [(false, eval (.Name x px) X.env)] := by rfl) (hpl : (backTo pos (starEach ([] : List Expr) X.env)).any (·.1) = false := by rfl) :
    JE X c (.Call (.Name "len" p) [.Name x px] [] pos) ρ rpI (tCB (rLenQ X.K) (tCons (tVar j) tNil)) (fun post _ => post (xs.length : Int)) := by
  refine ⟨pe_callB call_len_seq hg hm hbv (pa_cons (pe_var hN hv hd hcd) pa_nil he) (by decide) (by decide) he hpl, fun post ep φ G H σ w E Q k hx => ?_⟩
  obtain ⟨l, vs, h1, h2, h3, h4, h5, h6⟩ := E.ok j _ hρ
  exact ⟨.ref l, h1, l, vs, rfl, .inl (SqL.of h2), k G H _ _ (Gr.refl w) (by show V.int _ = V.int _; rw [h3.length]) φ⟩
end
end Ty

set_option Elab.async false
set_option linter.all false
set_option maxRecDepth 100000
set_option maxHeartbeats 1000000
set_option autoImplicit false
/-! Ty, part L: dicts that are known for good -/
namespace Ty
open PySem PySem.Spec PyProof.Rows L2
/-- a dict with keys that are numbers or texts -/
structure Di (α : Type) where
  l : List (Key × α)
instance rpDi {α : Type} [i : Rp α] : Rp (Di α) := ⟨fun K G v ms => ∃ a vs, v = .ref a ∧ G a = some (.dK vs) ∧ KvAll i K G vs ms.l ∧ vs.length ≤ sizeLine, fun e h => by
  obtain ⟨a, vs, h1, h2, h3, h4⟩ := h
  exact ⟨a, vs, h1, e _ _ h2, h3.mono e, h4⟩⟩
section
variable {X : Cx} {c : Cn} {ρ : List Sl} {α κ : Type} {i : Rp α} {iκ : Rp κ} {a b : Expr} {ta tb : TE} {Φa : Pt (Di α)} {Φb : Pt κ} {pos : Pos}
instance : KeyW Itm rpU := ⟨fun
  | .i n => .inl n
  | .s x => .inr x, fun {K G v m} h => by
  obtain rfl : v = m.v := h
  cases m <;> rfl⟩
/-- d[k], there -/
theorem e_get [kw : KeyW κ iκ] (hu : X.A.units + 1 < cLine) (ha : JE X c a ρ (rpDi (i := i)) ta Φa) (hb : JE X c b ρ iκ tb Φb) (hs : NoSl b := by exact fun _ _ => rfl) :
    JE X c (.Subscript a b pos) ρ i (tDGet ta tb) (fun post ep => Φa (fun d => Φb (fun k => ∃ m, valM d.l (kw.key k) = some m ∧ post m) ep) ep) := by
  refine ⟨pe_dget hu ha.pe hb.pe hs, fun post ep φ G H σ w E Q kk hx => ?_⟩
  refine ha.sem _ _ φ G H σ w E _ (fun G1 H1 v1 d g1 r1 φ1 => ?_) hx
  refine hb.sem _ _ φ1 G1 H1 σ g1.w (E.up g1) _ (fun G2 H2 v2 k g2 r2 φ2 => ?_) (hx.up g1)
  obtain ⟨l, vs, rfl, h1, h2, h3⟩ := Rp.mono g2.g r1
  obtain rfl := kw.out r2
  obtain ⟨m, e, p⟩ := φ2
  rcases h2.val (kw.key k) with ⟨_, e2⟩ | ⟨v, u, e1, e2, r⟩
  · rw [e] at e2
    cases e2
  · rw [e] at e2
    cases e2
    exact ⟨l, v, rfl, by rw [← e1]; exact DGet.k (g2.w.s _ _ h1), kk G2 H2 v _ (g1.trans g2) r p⟩
/-- k in d -/
theorem e_inDi [kw : KeyW κ iκ] (hu : X.A.units + 1 < cLine) (hb : JE X c b ρ iκ tb Φb) (ha : JE X c a ρ (rpDi (i := i)) ta Φa) (h1 : behindInMarks .In a = false := by rfl) :
    JE X c (.Compare b [.In] [a] pos) ρ rpB (tDIn tb ta) (fun post ep => Φb (fun k => Φa (fun d => post (valM d.l (kw.key k)).isSome) ep) ep) := by
  refine ⟨pe_cmp (pc_din hu hb.pe ha.pe) h1, fun post ep φ G H σ w E Q kk hx => ?_⟩
  refine hb.sem _ _ φ G H σ w E _ (fun G1 H1 v1 k g1 r1 φ1 => ?_) hx
  refine ha.sem _ _ φ1 G1 H1 σ g1.w (E.up g1) _ (fun G2 H2 v2 d g2 r2 φ2 => ?_) (hx.up g1)
  obtain ⟨l, vs, rfl, h1, h2, h3⟩ := r2
  obtain rfl := kw.out r1
  refine ⟨l, valV vs (kw.key k), rfl, DGet.k (g2.w.s _ _ h1), kk G2 H2 _ _ (g1.trans g2) ?_ φ2⟩
  show V.bl _ = V.bl _
  rcases h2.val (kw.key k) with ⟨e1, e2⟩ | ⟨v, u, e1, e2, _⟩ <;> rw [e1, e2] <;> rfl
theorem e_ninDi [kw : KeyW κ iκ] (hu : X.A.units + 1 < cLine) (hb : JE X c b ρ iκ tb Φb) (ha : JE X c a ρ (rpDi (i := i)) ta Φa) (h1 : behindInMarks .NotIn a = false := by rfl) :
    JE X c (.Compare b [.NotIn] [a] pos) ρ rpB (tDNotIn tb ta) (fun post ep => Φb (fun k => Φa (fun d => post (!(valM d.l (kw.key k)).isSome)) ep) ep) := by
  refine ⟨pe_cmp (pc_dnotin hu hb.pe ha.pe) h1, fun post ep φ G H σ w E Q kk hx => ?_⟩
  refine hb.sem _ _ φ G H σ w E _ (fun G1 H1 v1 k g1 r1 φ1 => ?_) hx
  refine ha.sem _ _ φ1 G1 H1 σ g1.w (E.up g1) _ (fun G2 H2 v2 d g2 r2 φ2 => ?_) (hx.up g1)
  obtain ⟨l, vs, rfl, h1, h2, h3⟩ := r2
  obtain rfl := kw.out r1
  refine ⟨l, valV vs (kw.key k), rfl, DGet.k (g2.w.s _ _ h1), kk G2 H2 _ _ (g1.trans g2) ?_ φ2⟩
  show V.bl _ = V.bl _
  rcases h2.val (kw.key k) with ⟨e1, e2⟩ | ⟨v, u, e1, e2, _⟩ <;> rw [e1, e2] <;> rfl
/-- d.get(k, z) -/
theorem e_get2 [kw : KeyW κ iκ] {z : Expr} {tz : TE} {Φz : Pt α} {pa : Pos} (hu : X.A.units + 1 < cLine) (ha : JE X c a ρ (rpDi (i := i)) ta Φa) (hb : JE X c b ρ iκ tb Φb) (hz : JE X c z ρ i tz Φz) (m : M2 X a "get" pa b z pos) :
    JE X c (.Call (.Attribute a "get" pa) [b, z] [] pos) ρ i (tDGet2 ta tb tz) (fun post ep => Φa (fun d => Φb (fun k => Φz (fun z => post ((valM d.l (kw.key k)).getD z)) ep) ep) ep) := by
  refine ⟨pe_dget2 hu ha.pe hb.pe hz.pe m, fun post ep φ G H σ w E Q kk hx => ?_⟩
  refine ha.sem _ _ φ G H σ w E _ (fun G1 H1 v1 d g1 r1 φ1 => ?_) hx
  obtain ⟨l, vs, rfl, h1, h2, h3⟩ := r1
  refine ⟨l, rfl, .inl ⟨vs, .inl (g1.w.s _ _ h1)⟩, ?_⟩
  refine hb.sem _ _ φ1 G1 H1 σ g1.w (E.up g1) _ (fun G2 H2 v2 k g2 r2 φ2 => ?_) (hx.up g1)
  have g12 := g1.trans g2
  refine hz.sem _ _ φ2 G2 H2 σ g2.w (E.up g12) _ (fun G3 H3 v3 z g3 r3 φ3 => ?_) (hx.up g12)
  obtain rfl := kw.out r2
  have g23 := g2.trans g3
  refine ⟨valV vs (kw.key k), DGet.k (g23.w.s _ _ (g23.g _ _ h1)), ?_⟩
  rcases (h2.mono g23.g).val (kw.key k) with ⟨e1, e2⟩ | ⟨v, u, e1, e2, r⟩
  · rw [e2] at φ3
    rw [e1]
    exact kk G3 H3 _ z (g12.trans g3) r3 φ3
  · rw [e2] at φ3
    rw [e1]
    exact kk G3 H3 _ u (g12.trans g3) r φ3
end
section
variable {X : Cx} {c : Cn} {ρ : List Sl} {S L β α : Type} {out : S → List Sl} {lp : L → List Sl} {i : Rp β} {iα : Rp α} {rest : List Stmt} {tr : TS}
/-- an own dict is known for good from here on -/
theorem b_frzD {xs : List (Key × α)} (j : Nat) {Φr : Pt (Out S L β)} (hρ : ρ[j]? = some (.md iα xs)) (hr : JB X c rest (ρ.set j (.val (rpDi (i := iα)) ⟨xs⟩)) out lp i tr Φr) : JB X c rest ρ out lp i tr (fun post ep => xs.length ≤ sizeLine ∧ Φr post ep) := by
  refine ⟨hr.pe, fun post ep φ G H σ g E D k hx => ?_⟩
  obtain ⟨l, vs, h1, h2, h3, h4, h5, h6⟩ := E.ok j _ hρ
  have hlen := h3.length
  have gf := gr_frz g h4 h5 h6 h2
  have E' : En X.K c.rs c.H0 (upd G l (.dK vs)) H σ (ρ.set j (.val (rpDi (i := iα)) ⟨xs⟩)) := by
    refine ⟨by simp [E.len], fun q y e => ?_, fun q r y z b ne e1 e2 o1 o2 s1 s2 => ?_⟩
    · rcases get_set e with ⟨rfl, rfl, z⟩ | ⟨qq, e⟩
      · exact ⟨.ref l, h1, l, vs, rfl, upd_same, h3.mono (Ex.new h5), by rw [hlen]; exact φ.1⟩
      · have p := E.ok q y e
        cases y with
        | no => trivial
        | val ii m =>
          obtain ⟨v, p1, p2⟩ := p
          exact ⟨v, p1, Rp.mono (Ex.new h5) p2⟩
        | rf a => exact p
        | ml ii ys =>
          obtain ⟨l', vs', q1, q2, q3, q4, q5, q6⟩ := p
          have ne : l' ≠ l := fun z => E.sep j q _ _ l qq hρ e rfl rfl h1 (z ▸ q1)
          exact ⟨l', vs', q1, q2, q3.mono (Ex.new h5), q4, by rw [upd_ne ne]; exact q5, q6⟩
        | md ii ys =>
          obtain ⟨l', vs', q1, q2, q3, q4, q5, q6⟩ := p
          have ne : l' ≠ l := fun z => E.sep j q _ _ l qq hρ e rfl rfl h1 (z ▸ q1)
          exact ⟨l', vs', q1, q2, q3.mono (Ex.new h5), q4, by rw [upd_ne ne]; exact q5, q6⟩
        | oi l' C fs =>
          obtain ⟨dx, vs', q1, q2, q3, q4, q5, q6, q7, q8, q9, q10⟩ := p
          have ne : l' ≠ l := fun z => E.sep j q _ _ l qq hρ e rfl rfl h1 (z ▸ q1)
          have nd : dx ≠ l := fun z => by
            rw [z, h2] at q7
            cases q7
          exact ⟨dx, vs', q1, q2, q3.mono (Ex.new h5), q4, by rw [upd_ne ne]; exact q5, q6, q7, q8, by rw [upd_ne nd]; exact q9, q10⟩
    · rcases get_set e1 with ⟨_, rfl, _⟩ | ⟨q1, e1⟩
      · cases o1
      rcases get_set e2 with ⟨_, rfl, _⟩ | ⟨q2, e2⟩
      · cases o2
      exact E.sep q r y z b ne e1 e2 o1 o2 s1 s2
  exact hr.sem _ _ φ.2 _ H σ gf E' D (k.up (Ex.new h5)) hx
end
end Ty

set_option Elab.async false
set_option linter.all false
set_option maxRecDepth 100000
set_option maxHeartbeats 1000000
set_option autoImplicit false
/-! Ty, part M: while -/
namespace Ty
open PySem PySem.Spec L2
def whileP {T β : Type} (Φt : T → Pt Bool) (Φb : T → Pt (Out T T β)) (fin : T → Prop) (rt : β → Prop) (ep : Exn → Prop) (s0 : T) : Prop :=
  ∃ (Iv : T → Prop) (μ : T → Nat), Iv s0 ∧ ∀ s, Iv s → Φt s (fun k => if k = true then Φb s (fun
    | .nx s' => Iv s' ∧ μ s' < μ s
    | .ct s' => Iv s' ∧ μ s' < μ s
    | .bk s' => fin s'
    | .rt b => rt b) ep else fin s) ep
section
variable {X : Cx} {c : Cn} {ρ : List Sl} {S L β : Type} {out : S → List Sl} {lp : L → List Sl} {i : Rp β} {pos : Pos} {rest : List Stmt} {tr : TS}
theorem b_while {T : Type} {t : Expr} {tt : TT} {body : List Stmt} {tb : TS} {Φt : T → Pt Bool} {Φb : T → Pt (Out T T β)} {Φr : T → Pt (Out S L β)} {lpS : T → List Sl}
    (s0 : T) (h0 : EnLe ρ (lpS s0)) (hp : PassesOwn (model X.prog X.w) X.A X.env X.xe) (ht : ∀ s, JT X c t (lpS s) tt (Φt s)) (hb : ∀ s, JB X c body (lpS s) lpS lpS i tb (Φb s)) (hr : ∀ s, JB X c rest (lpS s) out lp i tr (Φr s)) :
    JB X c (.While t body [] pos :: rest) ρ out lp i (tSeq (tWhile tt tb) tr) (fun post ep => whileP Φt Φb (fun s => Φr s post ep) (fun b => post (.rt b)) ep s0) := by
  refine ⟨pss_cons (ps_while hp (ht s0).pe (hb s0).pe) (hr s0).pe, fun post ep φ G H σ g E D k hx => ?_⟩
  obtain ⟨Iv, μ, i0, step⟩ := φ
  refine ⟨fun m σ' H' => ∃ (G' : Hp) (s : T), Gr c.rs c.G0 c.H0 G' H' ∧ En X.K c.rs c.H0 G' H' σ' (lpS s) ∧ Ex G G' ∧ Iv s ∧ μ s = m, ⟨μ s0, G, s0, g, E.le h0, Ex.refl _, i0, rfl⟩, ?_⟩
  rintro m σ1 H1 ⟨G1, s, g1, E1, x1, iv, rfl⟩
  refine (ht s).sem _ _ (step s iv) G1 H1 σ1 g1.w E1 _ (fun G2 H2 b g2 p => ?_) (hx.at g1)
  have x2 := x1.trans g2.g
  cases b with
  | false => exact (hr s).sem _ _ p G2 H2 σ1 (g1.trans g2) (E1.up g2) D (k.up x2) hx
  | true =>
    refine ⟨fun σ' H' => ∃ (G' : Hp) (s' : T), Gr c.rs c.G0 c.H0 G' H' ∧ En X.K c.rs c.H0 G' H' σ' (lpS s') ∧ Ex G G' ∧ Iv s' ∧ μ s' < μ s, fun σ' H' ⟨G', s', a, b, c', d, e⟩ => ⟨μ s', e, G', s', a, b, c', d, rfl⟩, ?_⟩
    refine (hb s).sem _ _ p G2 H2 σ1 (g1.trans g2) (E1.up g2) _ ⟨?_, ?_, ?_, ?_⟩ hx
    · exact fun G4 H4 σ4 s4 g4 x4 E4 p4 => ⟨G4, s4, g4, E4, x2.trans x4, p4.1, p4.2⟩
    · exact fun G4 H4 v b g4 x4 r p4 => k.rt G4 H4 v b g4 (x2.trans x4) r p4
    · exact fun G4 H4 σ4 s4 g4 x4 E4 p4 => (hr s4).sem _ _ p4 G4 H4 σ4 g4 E4 D (k.up (x2.trans x4)) hx
    · exact fun G4 H4 σ4 s4 g4 x4 E4 p4 => ⟨G4, s4, g4, E4, x2.trans x4, p4.1, p4.2⟩
end
end Ty

set_option Elab.async false
set_option linter.all false
set_option maxRecDepth 100000
set_option maxHeartbeats 1000000
set_option autoImplicit false
/-! Ty, part N: methods of own classes called -/
namespace Ty
open PySem PySem.Spec PyProof.Rows L2
/-- such values are instances of C; none of them has a field of that name -/
def InsN (K : Fg) {α : Type} (i : Rp α) (C : Addr) (m : Str) : Prop := ∀ (G : Hp) (v : V) (x : α), i.rp K G v x → ∃ p dx fs, v = .ref p ∧ G p = some (.ins C dx fs) ∧ fs.lookup m = none
def tMethO (C : Addr) (m : Str) (sp : Sp) (E : L2.St → XK) (ta : TE) (t : TA) : TE := fun σ H Q => ta σ H fun x H1 => ∃ a dx fs, x = .ref a ∧ H1 a = some (.ins C dx fs) ∧ fs.lookup m = none ∧ t σ H1 fun vs H2 => sp (x :: vs) H2 Q (E σ)
section
variable {X : Cx} {CX : CXT} {k : Nat} {C f : Addr} {fd : FuncData} {ps : List Str} {sp : Sp} {E : L2.St → XK} {m : Str} {o e : Expr} {es : List Expr} {apos pos : Pos} {ta : TE} {t : TA}
theorem pe_methO {pl : Sem Bool} (he : PE X o ta) (c : Cls X.K C) (hm : Meth X.K C m f) (F : FnOk X.prog X.w X.K X.mg X.base CX k f fd ps sp) (hr : Room k X.A) (hb : Binds X.K fd ps []) (hx : ∀ σ, PassesAt CX X σ (E σ)) (ha : PA X (e :: es) t)
    (hst : starEach (e :: es) X.env = (false, eval e X.env) :: starEach es X.env := by rfl) (hpl : (backTo pos (starEach es X.env)).any (·.1) = false := by rfl)
    (ht : eval (.Call (.Attribute o m apos) (e :: es) [] pos) X.env = (do
      let ov ← eval o X.env
      standAt apos.atName
      let (f, first) ← holding [ov] (getMethod ov m pl)
      callWith pos f first (backTo pos (starEach (e :: es) X.env)) (backToKw pos (keywordEach [] X.env))) := by rfl) :
    PE X (.Call (.Attribute o m apos) (e :: es) [] pos) (tMethO C m sp E ta t) := by
  refine ⟨fun pins s σ H Q I h => ?_⟩
  refine PySem.W.methodCall_KW (pl := pl) (thn (he.run pins s σ H _ I h) fun u s1 ⟨x, H1, I1, rx, a, dx, fs, ex, ea, l, q⟩ => ?_) ht
  subst ex
  obtain rfl : u = Value.ref a := rx
  refine getmeth_ok I1 ea c hm l ?_
  refine PySem.W.callWith_K (first := [.ref a]) (h₀ := X.base) I.ok.mod.kin hm.kp (thn (ha.run pos pins s1 σ H1 _ I1 q) fun us s2 ⟨vs, H2, I2, r, q2⟩ => ⟨I2.kIn, ?_⟩) hst hpl
  exact run_fnS (us := .ref a :: us) (vs := .ref a :: vs) F hr hb (hx σ) I2 (.cons rfl r) q2
theorem pe_methO0 {pl : Sem Bool} (he : PE X o ta) (c : Cls X.K C) (hm : Meth X.K C m f) (F : FnOk X.prog X.w X.K X.mg X.base CX k f fd ps sp) (hr : Room k X.A) (hb : Binds X.K fd ps []) (hx : ∀ σ, PassesAt CX X σ (E σ))
    (ht : eval (.Call (.Attribute o m apos) [] [] pos) X.env = (do
      let ov ← eval o X.env
      standAt apos.atName
      let (f, first) ← holding [ov] (getMethod ov m pl)
      callWith pos f first (backTo pos (starEach [] X.env)) (backToKw pos (keywordEach [] X.env))) := by rfl) :
    PE X (.Call (.Attribute o m apos) [] [] pos) (tMethO C m sp E ta tNil) := by
  refine ⟨fun pins s σ H Q I h => ?_⟩
  refine PySem.W.methodCall_KW (pl := pl) (thn (he.run pins s σ H _ I h) fun u s1 ⟨x, H1, I1, rx, a, dx, fs, ex, ea, l, q⟩ => ?_) ht
  subst ex
  obtain rfl : u = Value.ref a := rx
  refine getmeth_ok I1 ea c hm l ?_
  exact PySem.W.callWith_K0 (first := [.ref a]) I1.kIn hm.kp (run_fnS (us := [.ref a]) (vs := [.ref a]) F hr hb (hx σ) I1 (.cons rfl .nil) q)
variable {c : Cn} {ρ : List Sl} {α β ι : Type} {iα : Rp α} {i : Rp β} {as : ι → List Sl} {Φo : Pt α} {Φr : Pt ι} {Φ : α × ι → Pt β}
/-- o.m(e, ..): K and what errors are to meet by name, so that it may stand in a block -/
theorem e_meth {pl : Sem Bool} (hi : InsN X.K iα C m) (he : JE X c o ρ iα ta Φo) (hc : Cls X.K C) (hm : Meth X.K C m f) (F : FnOk X.prog X.w X.K X.mg X.base (L2.CX X.prog X.w) k f fd ps (spOf X.K rs0 (aCons iα as) i Φ)) (hr : Room k X.A) (hb : Binds X.K fd ps []) (tk : Takes X c.wsh)
    (ha : JA X c (e :: es) ρ as t Φr) (hst : starEach (e :: es) X.env = (false, eval e X.env) :: starEach es X.env := by rfl) (hpl : (backTo pos (starEach es X.env)).any (·.1) = false := by rfl)
    (ht : eval (.Call (.Attribute o m apos) (e :: es) [] pos) X.env = (do
      let ov ← eval o X.env
      standAt apos.atName
      let (f, first) ← holding [ov] (getMethod ov m pl)
      callWith pos f first (backTo pos (starEach (e :: es) X.env)) (backToKw pos (keywordEach [] X.env))) := by rfl) :
    JE X c (.Call (.Attribute o m apos) (e :: es) [] pos) ρ i (tMethO C m (spOf X.K rs0 (aCons iα as) i Φ) (fun σ => L2.WE c.wsh σ) ta t) (fun post ep => Φo (fun z => Φr (fun y => Φ (z, y) post ep) ep) ep) := by
  refine ⟨pe_methO he.pe hc hm F hr hb (fun σ => passAt tk σ) ha.pe hst hpl ht, fun post ep φ G H σ w E Q k hx => ?_⟩
  refine he.sem _ _ φ G H σ w E _ (fun G1 H1 v z g1 r1 φ1 => ?_) hx
  obtain ⟨p, dx, fs, rfl, h1, h2⟩ := hi G1 v z r1
  refine ⟨p, dx, fs, rfl, g1.w.s _ _ h1, h2, ?_⟩
  refine ha.sem _ _ φ1 G1 H1 σ g1.w (E.up g1) _ (fun G2 H2 vs y g2 r2 φ2 => ?_) (hx.up g1)
  have g12 := g1.trans g2
  exact ⟨G2, (z, y), post, ep, g12.w.to0, .cons (.val (Rp.mono g2.g r1)) r2, φ2, fun G' H' v' m' g r p => k G' H' v' m' (g12.trans (g.lift g12.w)) r p, fun G' H' cls d e' g r p => hx G' H' cls d e' (g12.trans (g.lift g12.w)) r p⟩
theorem e_meth0 {pl : Sem Bool} {Φ : α × Unit → Pt β} (hi : InsN X.K iα C m) (he : JE X c o ρ iα ta Φo) (hc : Cls X.K C) (hm : Meth X.K C m f) (F : FnOk X.prog X.w X.K X.mg X.base (L2.CX X.prog X.w) k f fd ps (spOf X.K rs0 (aCons iα aNil) i Φ)) (hr : Room k X.A) (hb : Binds X.K fd ps []) (tk : Takes X c.wsh)
    (ht : eval (.Call (.Attribute o m apos) [] [] pos) X.env = (do
      let ov ← eval o X.env
      standAt apos.atName
      let (f, first) ← holding [ov] (getMethod ov m pl)
      callWith pos f first (backTo pos (starEach [] X.env)) (backToKw pos (keywordEach [] X.env))) := by rfl) :
    JE X c (.Call (.Attribute o m apos) [] [] pos) ρ i (tMethO C m (spOf X.K rs0 (aCons iα aNil) i Φ) (fun σ => L2.WE c.wsh σ) ta tNil) (fun post ep => Φo (fun z => Φ (z, ()) post ep) ep) := by
  refine ⟨pe_methO0 he.pe hc hm F hr hb (fun σ => passAt tk σ) ht, fun post ep φ G H σ w E Q k hx => ?_⟩
  refine he.sem _ _ φ G H σ w E _ (fun G1 H1 v z g1 r1 φ1 => ?_) hx
  obtain ⟨p, dx, fs, rfl, h1, h2⟩ := hi G1 v z r1
  exact ⟨p, dx, fs, rfl, g1.w.s _ _ h1, h2, G1, (z, ()), post, ep, g1.w.to0, .cons (.val r1) .nil, φ1, fun G' H' v' m' g r p => k G' H' v' m' (g1.trans (g.lift g1.w)) r p, fun G' H' cls d e' g r p => hx G' H' cls d e' (g1.trans (g.lift g1.w)) r p⟩
end
end Ty

set_option Elab.async false
set_option linter.all false
set_option maxRecDepth 100000
set_option maxHeartbeats 1000000
set_option autoImplicit false
/-! Ty, part O: constants of the module that are tuples, texts walked -/
namespace Ty
open PySem PySem.Spec PyProof.Rows L2
section
variable {X : Cx} {c : Cn} {ρ : List Sl} {α : Type} {i : Rp α} {pos : Pos}
/-- a tuple of the module -/
theorem e_gtup {x : Str} {a : Addr} {vs : List V} {ms : List α} (hm : X.mg x = some (.ref a)) (hS : ∀ H : Hp, SqT X.K H a vs) (hr : ∀ G : Hp, RpAll i X.K G vs ms) (hz : vs.length ≤ sizeLine := by decide) (hg : Gl X x := by rfl) (hd : (x == ("__debug__" : Str)) = false := by decide) :
    JE X c (.Name x pos) ρ (rpT (i := i)) (tC (.ref a)) (fun post _ => post ⟨ms⟩) :=
  e_glob hm rfl (fun G => ⟨a, vs, rfl, hS G, hr G, hz⟩) hg hd
end
def signs (z : Str) : List Str := z.cps.toList.map fun c => ⟨#[c]⟩
theorem walkG_str {K : Fg} {z : Str} : WalkG K rpS (Its z) (fun _ => True) (signs z) := by
  have hl : (signs z).length = z.cps.size := by simp [signs]
  refine ⟨fun _ _ _ h => h, _, _, hl ▸ walk_str (z := z), fun _ _ _ _ => trivial, fun rs j m G H x H' w h e y => ?_⟩
  obtain ⟨rfl, cc, hc, rfl⟩ := y
  refine ⟨G, Gr.refl w, ?_⟩
  unfold signs at e
  rw [List.getElem?_map, Array.getElem?_toList, hc] at e
  cases e
  rfl
section
variable {X : Cx} {c : Cn} {ρ : List Sl} {tg e : Expr} {te : TE} {Φ : Pt Str}
theorem i_str (he : JE X c e ρ rpS te Φ) : JI X c tg e ρ rpS (iStr te) (fun post ep => Φ (fun z => post (signs z)) ep) := by
  refine ⟨pi_str he.pe, fun post ep φ G H σ w E R k hx => he.sem _ _ φ G H σ w E _ (fun G1 H1 v m g r p => ?_) hx⟩
  exact ⟨m, r, k G1 H1 _ _ _ g walkG_str trivial p⟩
end
/-! ### enumerate, zip of lists -/
def enumI {α : Type} (xs : List α) : List (Int × α) := xs.zipIdx.map fun p => ((p.2 : Int), p.1)
theorem enumI_len {α : Type} (xs : List α) : (enumI xs).length = xs.length := by simp [enumI]
theorem enumI_at {α : Type} {xs : List α} {j : Nat} {p : Int × α} (h : (enumI xs)[j]? = some p) : p.1 = (j : Int) ∧ xs[j]? = some p.2 := by
  unfold enumI at h
  rw [List.getElem?_map, List.getElem?_zipIdx] at h
  cases e : xs[j]? with
  | none =>
    rw [e] at h
    cases h
  | some y =>
    rw [e] at h
    simp at h
    subst h
    exact ⟨rfl, rfl⟩
theorem walkG_en {K : Fg} {α : Type} {i : Rp α} {a : Addr} {vs : List V} {xs : List α} (hl : vs.length = xs.length) : WalkG K (rp2 (i := rpI) (j := i)) (Ite K a) (fun G => G a = some (.lst vs) ∧ RpAll i K G vs xs) (enumI xs) := by
  have hl2 : (enumI xs).length = vs.length := by rw [enumI_len, hl]
  refine ⟨fun G G' e h => ⟨e _ _ h.1, h.2.mono e⟩, _, _, hl2 ▸ walk_enum (K := K) (a := a) (xs := vs), fun G H e h => SqL.of (e _ _ h.1), fun rs j m G H x H' w h e y => ?_⟩
  obtain ⟨T, x1, y1, rfl, hT, rfl, ex, ey⟩ := y
  obtain ⟨e1, e2⟩ := enumI_at e
  obtain ⟨v, h1, h2⟩ := h.2.get e2
  have ey : vs[j]? = some y1 := ey
  rw [ey] at h1
  cases h1
  cases ex
  have g := gr_new (o := .tup [.int (j : Int), y1]) w hT
  exact ⟨_, g, T, _, _, rfl, SqT.of upd_same, by show V.int _ = V.int _; rw [e1], Rp.mono g.g h2⟩
section
variable {X : Cx} {c : Cn} {ρ : List Sl} {α : Type} {i : Rp α} {e : Expr} {t : TA} {Φ : Pt (List α × Unit)} {elts : List Expr} {kk : Nat} {p pos tpos : Pos}
/-- for k, x in enumerate(xs) -/
theorem i_enum (hg : Gl X "enumerate") (hm : X.mg "enumerate" = none) (ha : JA X c [e] ρ (aCons (rpL (i := i)) aNil) t Φ) (hs : starEach [e] X.env = [(false, eval e X.env)] := by rfl) :
    JI X c (.Tuple elts kk tpos) (.Call (.Name "enumerate" p) [e] [] pos) ρ (rp2 (i := rpI) (j := i)) (iEnum X.K t) (fun post ep => Φ (fun xs => post (enumI xs.1)) ep) := by
  refine ⟨pi_enum hg hm ha.pe hs, fun post ep φ G H σ w E R k hx => ha.sem _ _ φ G H σ w E _ (fun G1 H1 vs m g r p => ?_) hx⟩
  obtain ⟨v, rfl, a, us, rfl, h1, h2, h3⟩ := one1 r
  exact ⟨a, us, rfl, SqL.of (g.w.s _ _ h1), k G1 H1 _ _ _ g (walkG_en h2.length) ⟨h1, h2⟩ p⟩
end
end Ty

set_option Elab.async false
set_option linter.all false
set_option maxRecDepth 100000
set_option maxHeartbeats 1000000
set_option autoImplicit false
/-! Ty, part P: zip of lists -/
namespace Ty
open PySem PySem.Spec PyProof.Rows L2
theorem walkG_zip {K : Fg} {α β : Type} {i : Rp α} {j : Rp β} {a b : Addr} {vs us : List V} {xs : List α} {ys : List β} (h1 : vs.length = xs.length) (h2 : us.length = ys.length) :
    WalkG K (rp2 (i := i) (j := j)) (Itz K a b) (fun G => (G a = some (.lst vs) ∧ G b = some (.lst us)) ∧ RpAll i K G vs xs ∧ RpAll j K G us ys) (xs.zip ys) := by
  have hl : (xs.zip ys).length = min vs.length us.length := by rw [List.length_zip, h1, h2]
  refine ⟨fun G G' e h => ⟨⟨e _ _ h.1.1, e _ _ h.1.2⟩, h.2.1.mono e, h.2.2.mono e⟩, _, _, walk_zip (K := K) (a := a) (b := b) (xs := vs) (ys := us) hl, fun G H e h => ⟨SqL.of (e _ _ h.1.1), SqL.of (e _ _ h.1.2)⟩, fun rs k m G H x H' w h e y => ?_⟩
  obtain ⟨T, x1, y1, rfl, hT, rfl, ex, ey⟩ := y
  have ex : vs[k]? = some x1 := ex
  have ey : us[k]? = some y1 := ey
  obtain ⟨m1, q1, r1⟩ := h.2.1.getV ex
  obtain ⟨m2, q2, r2⟩ := h.2.2.getV ey
  have em : m = (m1, m2) := by
    rw [List.getElem?_zip_eq_some] at e
    obtain ⟨e1, e2⟩ := e
    rw [q1] at e1
    rw [q2] at e2
    cases m
    cases e1
    cases e2
    rfl
  subst em
  have g := gr_new (o := .tup [x1, y1]) w hT
  exact ⟨_, g, T, _, _, rfl, SqT.of upd_same, Rp.mono g.g r1, Rp.mono g.g r2⟩
section
variable {X : Cx} {c : Cn} {ρ : List Sl} {α β : Type} {i : Rp α} {j : Rp β} {e e2 : Expr} {t : TA} {Φ : Pt (List α × List β × Unit)} {elts : List Expr} {kk : Nat} {p pos tpos : Pos}
/-- for x, y in zip(xs, ys) -/
theorem i_zip (hg : Gl X "zip") (hm : X.mg "zip" = none) (ha : JA X c [e, e2] ρ (aCons (rpL (i := i)) (aCons (rpL (i := j)) aNil)) t Φ) (hs : starEach [e, e2] X.env = (false, eval e X.env) :: starEach [e2] X.env := by rfl) (hpl : (backTo pos (starEach [e2] X.env)).any (·.1) = false := by rfl) :
    JI X c (.Tuple elts kk tpos) (.Call (.Name "zip" p) [e, e2] [] pos) ρ (rp2 (i := i) (j := j)) (iZip X.K t) (fun post ep => Φ (fun xs => post (xs.1.zip xs.2.1)) ep) := by
  refine ⟨pi_zip hg hm ha.pe hs hpl, fun post ep φ G H σ w E R k hx => ha.sem _ _ φ G H σ w E _ (fun G1 H1 vs m g r p => ?_) hx⟩
  obtain ⟨v, u, rfl, ⟨a, us, rfl, h1, h2, h3⟩, ⟨b, ws, rfl, h4, h5, h6⟩⟩ := two2 r
  exact ⟨a, b, us, ws, rfl, SqL.of (g.w.s _ _ h1), SqL.of (g.w.s _ _ h4), k G1 H1 _ _ _ g (walkG_zip h2.length h5.length) ⟨⟨h1, h4⟩, h2, h5⟩ p⟩
end
end Ty

set_option Elab.async false
set_option linter.all false
set_option maxRecDepth 100000
set_option maxHeartbeats 1000000
set_option autoImplicit false
/-! Ty, part R: super() (the activation is known), defs that close over their class, errors that are made -/
namespace Ty
open PySem PySem.Spec PyProof.Rows L2 NdefX ClX

abbrev wAt (X : Cx) (body : List Stmt) {α : Type} (m : Sem α) (Q : α → Shared → Prop) (s : Shared) : Prop := PySem.wpAt (model X.prog X.w) X.A (.func body X.env) m Q X.xe s
structure EAt (X : Cx) (body : List Stmt) (e : Expr) (t : TE) : Prop where
  run : ∀ (pins : List (Addr × Obj)) (s : Shared) (σ : L2.St) (H : Hp) (Q : VK), Inv X pins σ H s → t σ H Q → wAt X body (eval e X.env) (EP X pins σ Q) s
structure SAt (X : Cx) (body : List Stmt) (st : Stmt) (t : TS) : Prop where
  run : ∀ (pins : List (Addr × Obj)) (s : Shared) (σ : L2.St) (H : Hp) (D : Ends), Inv X pins σ H s → t D σ H → wAt X body (exec st X.env) (SP X pins D) s
structure SsAt (X : Cx) (body ss : List Stmt) (t : TS) : Prop where
  run : ∀ (pins : List (Addr × Obj)) (s : Shared) (σ : L2.St) (H : Hp) (D : Ends), Inv X pins σ H s → t D σ H → wAt X body (execs ss X.env) (SP X pins D) s
section
variable {X : Cx} {body rest ss : List Stmt} {st : Stmt} {e : Expr} {te : TE} {t u : TS} {pos pos' : Pos}
theorem SAt.of (h : PS X st t) : SAt X body st t := ⟨fun pins s σ H D I q => PySem.wpAt_of_wpAny (h.run pins s σ H D I q)⟩
theorem SsAt.of (h : PSs X ss t) : SsAt X body ss t := ⟨fun pins s σ H D I q => PySem.wpAt_of_wpAny (h.run pins s σ H D I q)⟩
theorem ssAt_cons (h1 : SAt X body st t) (h2 : SsAt X body rest u) : SsAt X body (st :: rest) (tSeq t u) := by
  refine ⟨fun pins s σ H D I h => ks_wpAt_execs_cons (PySem.wpAt_mono (h1.run pins s σ H { D with nx := u D } I h) (fun f s1 q => ?_) fun _ _ x => x)⟩
  cases f with
  | next =>
    obtain ⟨σ', H', I', q⟩ := q
    exact h2.run pins s1 σ' H' D I' q
  | ret v => exact q
  | brk => exact q
  | cont => exact q
theorem sAt_expr (he : EAt X body e te) (hs : swapsWith e none pos.line X.env = pure false := by rfl) : SAt X body (.Expr e pos) (tDrop te) := by
  refine ⟨fun pins s σ H D I h => ks_wpAt_Expr_any (PySem.wpAt_mono (he.run pins s σ H _ I h) (fun v s1 q => ?_) fun _ _ x => x) I.quiet hs⟩
  obtain ⟨x, H1, I1, r1, q1⟩ := q
  exact ⟨σ, H1, I1, q1⟩
theorem sAt_ret (he : EAt X body e te) : SAt X body (.Return (some e) pos) (tRet te) := by
  refine ⟨fun pins s σ H D I h => ks_wpAt_Return_some (PySem.wpAt_mono (he.run pins s σ H _ I h) (fun v s1 q => ?_) fun _ _ x => x)⟩
  obtain ⟨x, H1, I1, r1, q1⟩ := q
  exact ⟨x, σ, H1, I1, r1, q1⟩
theorem sAt_asg {i : Nat} {x : Str} (he : EAt X body e te) (hN : X.N.Nodup) (hi : X.N[i]? = some x) (hx : X.env.scope.names.lookup x = some .local) (hs : swapsWith e (some (.Name x pos')) pos.line X.env = pure false := by rfl) :
    SAt X body (.Assign [.Name x pos'] e pos) (tAsg te (gName i)) := by
  refine ⟨fun pins s σ H D I h => ks_wpAt_Assign_Name (PySem.wpAt_mono (he.run pins s σ H _ I h) (fun v s1 q => ?_) fun _ _ x => x) hs⟩
  obtain ⟨y, H1, I1, r1, q1⟩ := q
  exact store_ok I1 hN hi (.inl hx) r1 (fun s2 I2 => ⟨_, H1, I2, q1⟩) (.inr hx)
end

/-! ### a def that closes over its class -/
section
variable {CX : CXT} {P : Program} {w : World} {K : Fg} {mg : Str → Option Value} {base : Heap} {N ps : List Str} {F : NF} {f cc : Addr} {k : Nat} {sp : Sp} {fd : FuncData}
/-- what K holds of the function at f: F, over the cell at cc that holds the class D -/
structure SupD (K : Fg) (P : Program) (F : NF) (f D cc : Addr) (fd : FuncData) : Prop where
  cl : F.cl = [(("__class__" : Str), cc)]
  fn : ∃ oc od doc pm an ct osl, fd = PySem.W.fnX F.name F.qual F.params F.body F.scope F.cl .none .none doc pm an (.ref F.c) ct ∧ K.lookup f = some ⟨oc, od, .func fd, osl⟩
  kp : PySem.W.keepIn K (.ref f) = true
  nm : PySem.W.codeIn K (.ref F.c) F.qual = true
  self : ∃ ar : Arg, (F.params.posonlyargs ++ F.params.args).head? = some ar ∧ ar.arg = ("self" : Str)
  code : ∃ ccl cdd vs ccs file tf, K.lookup F.c = some ⟨ccl, cdd, .fields vs, ccs⟩ ∧ vs[2]? = some (.str file tf) ∧ ((P.main.file : Str) == file) = true
  cell : ∃ cl cld csl, K.lookup cc = some ⟨cl, cld, .cell (some (.ref D)), csl⟩
  cls : ∃ cd, PySem.W.clsIn K D = some cd
  top : (P.main.scope.names.lookup ("super" : Str)).isSome = false
  opq : PySem.W.nsIn K cStatics "thirdparty.any" = some none
theorem SupD.cells {D : Addr} {s : Shared} {H : Hp} {A : Around} {outer : List Env} (U : SupD K P F f D cc fd) (e0 : Env0 P w K mg base A outer s H) : CellsAt F.cl [("__class__" : Str)] [none] s.heap H := by
  obtain ⟨c1, c2, c3, hc⟩ := U.cell
  have hb := e0.bs _ _ (e0.mod.kin _ _ hc)
  have at_ : ∀ (y : Str) (c : Addr), F.cl.lookup y = some c → y = ("__class__" : Str) ∧ c = cc := fun y c e => by
    rw [U.cl] at e
    have e2 : (match y == ("__class__" : Str) with | true => some cc | false => none) = some c := e
    cases z : (y == ("__class__" : Str)) with
    | true =>
      rw [z] at e2
      exact ⟨beq_iff_eq.mp z, (Option.some.inj e2).symm⟩
    | false =>
      rw [z] at e2
      cases e2
  refine ⟨rfl, fun y c e => ?_, fun x y c e1 e2 => ?_, fun i y e => ?_⟩
  · obtain ⟨_, rfl⟩ := at_ y c e
    exact ⟨hb.2, _, _, hb.1, rfl⟩
  · exact (at_ x c e1).1.trans (at_ y c e2).1.symm
  · cases i with
    | zero =>
      have e : some ("__class__" : Str) = some y := e
      cases e
      exact ⟨cc, by rw [U.cl] <;> rfl, fun v z => by cases z⟩
    | succ i => cases e
theorem fnS_of {D : Addr} (U : SupD K P F f D cc fd) (S : NScope N ps [("__class__" : Str)] F.scope) (len : ∀ vs H Q E, sp vs H Q E → vs.length = ps.length)
    (hbody : ∀ (A : Around) (outer : List Env) (s : Shared) (H : Hp) (vs : List V) (Q : VK) (E : XK), Room k (A.deeper (envF F f s.heap.objs.size)) → sp vs H Q E →
      ∃ t, SsAt (ncx CX P w K mg base N F f A outer s H E) F.body F.body t ∧ t { nx := fun _ H' => Q .non H', rt := Q } (startF N vs [none]) H) : FnOk P w K mg base CX (k + 1) f fd ps sp := by
  obtain ⟨oc, od, doc, pm, an, ct, osl, rfl, lk⟩ := U.fn
  refine ⟨len, fun A outer s H args us vs Q E hr e0 hb r hsp => ?_⟩
  have KX : K.In s.heap := e0.mod.kin.keeps fun b o e => (e0.bs b o e).1
  refine ks_codeAny_call_defAt (body := F.body) (binds := ps.zip us) hr.depth (KX _ _ lk) rfl (e0.mod.nolimit.keeps fun b o e => (e0.bs b o e).1) (PySem.W.codeRec_of KX U.nm) rfl hb S.nocell (fun y hy => S.par y.1 (List.of_mem_zip hy).1) (fun h₁ hns hk => ?_) S.co S.gen S.kind
  obtain ⟨t, ht, hq⟩ := hbody A outer s H vs Q E (hr.deeper _) hsp
  have I := inv_startN (CX := CX) (E := E) (f := f) (tk := s.toks + (ps.zip us).length) S hr.hd e0 (len _ _ _ _ hsp) r (U.cells e0) hns hk
  refine PySem.wpAt_mono (ht.run [] _ _ H _ I hq) (fun fl s' hs => ?_) fun e s' hs => hs
  cases fl with
  | ret u =>
    obtain ⟨v, σ', H', J, rv, q⟩ := hs
    exact ⟨v, H', J.os, J.bare, J.base, J.hok, rv, q⟩
  | next =>
    obtain ⟨σ', H', J, q⟩ := hs
    exact ⟨V.non, H', J.os, J.bare, J.base, J.hok, rfl, q⟩
  | brk =>
    obtain ⟨_, _, _, q⟩ := hs
    exact False.elim q
  | cont =>
    obtain ⟨_, _, _, q⟩ := hs
    exact False.elim q

/-! ### super() -/
abbrev supO (D x C : Addr) : Obj := PySem.W.ks_superObj D x C
theorem sup_base {A : Around} {outer : List Env} {s0 s : Shared} {H0 H : Hp} {E : XK} {pins : List (Addr × Obj)} {σ : L2.St} {D x C : Addr} {ox : Obj} {attr : Str} {p0 p1 : Pos} {whole : Sem Value} {Q : Value → Shared → Prop} {body : List Stmt}
    (U : SupD K P F f D cc fd) (hmg : mg "super" = none) (hk : F.scope.kind = .function) (I : Inv (ncx CX P w K mg base N F f A outer s0 H0 E) pins σ H s) (hN : N[0]? = some ("self" : Str)) (hs1 : F.scope.names.lookup ("self" : Str) = some .local) (hs2 : F.scope.names.lookup ("super" : Str) = some .globalImplicit)
    (hs3 : F.scope.names.lookup ("__class__" : Str) = some .free) (hσ : σ[0]? = some (some (.ref x))) (hx : s.heap.get? x = some ox) (hc : ox.cls = .ref C) (hd : ∀ c, ox.data ≠ .cls c) (hsub : PySem.W.mroIn K C (.ref D) = some true) (hat : (attr == ("__class__" : Str)) = false)
    (h : ∀ so h', h'.get? so = some (supO D x C) → (∀ b o, s.heap.get? b = some o → h'.get? b = some o) → Q (.ref so) { s with heap := h' }) :
    wAt (ncx CX P w K mg base N F f A outer s0 H0 E) body (attributeBase (.Call (.Name "super" p0) [] [] p1) attr (envF F f s0.heap.objs.size) whole) Q s := by
  obtain ⟨oc, od, doc, pm, an, ct, osl, rfl, lk⟩ := U.fn
  obtain ⟨ar, hp, har⟩ := U.self
  obtain ⟨ccl, cdd, vs, ccs, file, tf, hcode, hvs, hfile⟩ := U.code
  obtain ⟨cl, cld, csl, hcell⟩ := U.cell
  obtain ⟨cd, hcd⟩ := U.cls
  have KX : K.In s.heap := I.kIn
  obtain ⟨oD, hD1, hD2⟩ : ∃ oD, s.heap.get? D = some oD ∧ oD.data = .cls cd := by
    unfold PySem.W.clsIn at hcd
    split at hcd
    · rename_i ho
      cases hcd
      exact ⟨_, KX _ _ ho, rfl⟩
    · cases hcd
  obtain ⟨mb, b1, b2⟩ := I.mod.blt
  obtain ⟨m, hns, hl⟩ := id I.loc
  obtain ⟨u, ru, lu⟩ := hl 0 "self" (.ref x) hN hσ (.inl hs1)
  obtain rfl : u = Value.ref x := ru
  have hm : m "self" = some (Value.ref x) := by
    rcases lu with ⟨_, z⟩ | ⟨z, _⟩
    · exact z
    · have z : F.scope.names.lookup ("self" : Str) = some .cell ∨ F.scope.names.lookup ("self" : Str) = some .free := z
      rw [hs1] at z
      rcases z with z | z <;> cases z
  have hclo : (envF F f s0.heap.objs.size).cells.lookup ("__class__" : Str) = some cc := by
    show F.cl.lookup _ = _
    rw [U.cl] <;> rfl
  obtain ⟨hh, g, d, t, os⟩ := s
  refine ks_wpAt_super_base (env := envF F f s0.heap.objs.size) hs2 hs3 hat rfl (KX _ _ lk) rfl hp rfl (KX _ _ hcode) rfl hvs hfile U.top ?_
  have bsup : bootBuiltins "super" = some (.type "super") := by first | rfl | kernel_rfl
  refine PySem.W.ks_loadName_global hk hs2 (Calls.loadGlobal_builtin (I.mod.glob.keeps I.bk) hmg (b1.keeps I.bk) ((b2 _ (by decide)).trans bsup) ⟨rfl, ?_⟩)
  refine wpAny_loadName_free hk hs3 hclo ⟨_, KX _ _ hcell, rfl⟩ ?_
  refine wpAny_loadName_local hk (by rw [har]; exact hs1) hns (by rw [har]; exact hm) ?_
  refine ks_wpAny_isType_cls hD1 hD2 ⟨rfl, ?_⟩
  exact ks_wpAny_call_super hD1 hD2 hx hc hd (PySem.W.looks_mroIn KX hsub) fun h' e k => h _ h' e k
end
end Ty

set_option Elab.async false
set_option linter.all false
set_option maxRecDepth 100000
set_option maxHeartbeats 1000000
set_option autoImplicit false
/-! Ty, part S: super().m(..) of an own class, super().__init__(..) of an own error -/
namespace Ty
open PySem PySem.Spec PyProof.Rows L2 NdefX ClX

/-- from the class D on, the method m of the instances of C is the function at f2 -/
structure SupTo (K : Fg) (D C : Addr) (m : Str) (f2 : Addr) : Prop where
  sub : PySem.W.mroIn K C (.ref D) = some true
  at_ : PySem.W.ks_superIn K C D m = some (some (.ref f2))
/-- .. of an error: ValueError's own -/
structure SupEr (K : Fg) (D C : Addr) : Prop where
  sub : PySem.W.mroIn K C (.ref D) = some true
  at_ : PySem.W.ks_superIn K C D "__init__" = some (some (.builtin "ValueError.__init__"))
  ve : PySem.W.subIn K (.ref C) (.type "ValueError") = some true
def tSupM (K : Fg) (D f2 : Addr) (m : Str) (sp : Sp) (E : L2.St → XK) (t : TA) : TE := fun σ H Q => ∃ a C dx fs, σ[0]? = some (some (.ref a)) ∧ H a = some (.ins C dx fs) ∧ SupTo K D C m f2 ∧ t σ H fun vs H2 => sp (.ref a :: vs) H2 Q (E σ)
def tSupE (K : Fg) (D : Addr) (t : TA) : TE := fun σ H Q => ∃ a C, σ[0]? = some (some (.ref a)) ∧ H a = some (exo a C none) ∧ OexC K C ∧ SupEr K D C ∧ t σ H fun ws H1 => ws.length ≤ 1000 ∧ H1 a = some (exo a C none) ∧ Q .non H1
theorem super_get {K : Fg} {M : Model} {h : Heap} {C D : Addr} {m : Str} {r : Option Value} (X : K.In h) (e : PySem.W.ks_superIn K C D m = some r) : ∃ l₀, PySem.W.Looks M h (mroOf (.ref C)) l₀ ∧ PySem.W.alongIn K m ((l₀.dropWhile (· != .ref D)).drop 1) = some r ∧ ∃ cd, PySem.W.clsIn K C = some cd := by
  unfold PySem.W.ks_superIn at e
  cases hc : PySem.W.clsIn K C with
  | none =>
    rw [hc] at e
    cases e
  | some cd =>
    rw [hc] at e
    exact ⟨cd.mro, (PySem.W.looks_clsIn X hc).andThen .now, e, cd, rfl⟩
section
variable {CX : CXT} {P : Program} {w : World} {K : Fg} {mg : Str → Option Value} {base : Heap} {N ps : List Str} {F : NF} {f cc D f2 : Addr} {k : Nat} {sp : Sp} {fd fd2 : FuncData} {A : Around} {outer : List Env} {s0 : Shared} {H0 : Hp} {E0 : XK} {E : L2.St → XK} {m : Str} {e : Expr} {es : List Expr} {t : TA} {p0 p1 apos pos : Pos} {body : List Stmt}
theorem inst_of {X : Cx} {pins : List (Addr × Obj)} {σ : L2.St} {H : Hp} {s : Shared} {a C dx : Addr} {fs : List (Str × V)} (I : Inv X pins σ H s) (h : H a = some (.ins C dx fs)) : ∃ ox, s.heap.get? a = some ox ∧ ox.cls = .ref C ∧ ∀ c, ox.data ≠ .cls c := by
  obtain ⟨_, _, _, e, _⟩ := I.hok a _ h
  exact ⟨_, e, rfl, fun c z => nomatch z⟩
theorem eAt_sup {pl : Sem Bool} (U : SupD K P F f D cc fd) (hmg : mg "super" = none) (hk : F.scope.kind = .function) (hN : N[0]? = some ("self" : Str)) (hs1 : F.scope.names.lookup ("self" : Str) = some .local) (hs2 : F.scope.names.lookup ("super" : Str) = some .globalImplicit)
    (hs3 : F.scope.names.lookup ("__class__" : Str) = some .free) (hat : (m == ("__class__" : Str)) = false) (ht2 : PySem.W.typeIn K (.ref f2) = some (.type "function")) (hf2 : PySem.W.fnIn K f2 = true)
    (G : FnOk P w K mg base CX k f2 fd2 ps sp) (hr : Room k (A.deeper (envF F f s0.heap.objs.size))) (hb : Binds K fd2 ps []) (hx : ∀ σ, PassesAt CX (ncx CX P w K mg base N F f A outer s0 H0 E0) σ (E σ)) (ha : PA (ncx CX P w K mg base N F f A outer s0 H0 E0) (e :: es) t)
    (hst : starEach (e :: es) (envF F f s0.heap.objs.size) = (false, eval e (envF F f s0.heap.objs.size)) :: starEach es (envF F f s0.heap.objs.size) := by rfl) (hpl : (backTo pos (starEach es (envF F f s0.heap.objs.size))).any (·.1) = false := by rfl)
    (ht : eval (.Call (.Attribute (.Call (.Name "super" p0) [] [] p1) m apos) (e :: es) [] pos) (envF F f s0.heap.objs.size) = (do
      let ov ← attributeBase (.Call (.Name "super" p0) [] [] p1) m (envF F f s0.heap.objs.size) (eval (.Call (.Name "super" p0) [] [] p1) (envF F f s0.heap.objs.size))
      standAt apos.atName
      let (g, first) ← holding [ov] (getMethod ov m pl)
      callWith pos g first (backTo pos (starEach (e :: es) (envF F f s0.heap.objs.size))) []) := by rfl) :
    EAt (ncx CX P w K mg base N F f A outer s0 H0 E0) body (.Call (.Attribute (.Call (.Name "super" p0) [] [] p1) m apos) (e :: es) [] pos) (tSupM K D f2 m sp E t) := by
  refine ⟨fun pins s σ H Q I h => ?_⟩
  obtain ⟨a, C, dx, fs, hσ, ea, T, q⟩ := h
  obtain ⟨ox, hx1, hx2, hx3⟩ := inst_of I ea
  refine ks_wpAt_MethodCall (sup_base (Q := _) U hmg hk I hN hs1 hs2 hs3 hσ hx1 hx2 hx3 T.sub hat fun so h' hso kp => ?_) ht
  have I1 : Inv (ncx CX P w K mg base N F f A outer s0 H0 E0) pins σ H { s with heap := h' } := I.kept (t' := s.toks) kp
  have X1 : K.In h' := I1.kIn
  obtain ⟨l₀, L0, hal, cd, hcd⟩ := super_get (M := model P w) X1 T.at_
  obtain ⟨of, hof, hofc⟩ : ∃ of, h'.get? f2 = some of ∧ of.cls = .type "function" := by
    have z : (K.lookup f2).map (·.cls) = some (.type "function") := ht2
    obtain ⟨of, z1, z2⟩ := Option.map_eq_some_iff.mp z
    exact ⟨of, X1 _ _ z1, z2⟩
  have hxC : a ≠ C := fun z => by
    subst z
    unfold PySem.W.clsIn at hcd
    split at hcd
    · rename_i ho
      have y := X1 _ _ ho
      rw [kp _ _ hx1] at y
      cases y
      exact hx3 _ rfl
    · cases hcd
  obtain ⟨hh, g, d, tk, os⟩ := s
  refine ks_wpAny_getMethod_super hso (PySem.W.looks_opaque X1 U.opq) L0 rfl X1 hal hof hofc hxC hat ?_
  have I2 := met_new (g := f2) (C := a) I1
  refine callwith_cm I2 (base_none I1 (Nat.le_refl _)) hf2 (thn (ha.run pos _ _ σ H _ I2 q) fun us s3 ⟨vs, H2, I3, rv, q2⟩ => ⟨⟨pin_at I3, I3.kIn⟩, ?_⟩) hst hpl
  have hl : (Value.ref a :: us).length = ps.length := by
    have y := G.len _ _ _ _ q2
    rw [← y, List.length_cons, List.length_cons, rv.length]
  have b2 := hb s3 (Value.ref a :: us) I3.kIn (by rw [List.append_nil]; exact hl)
  rw [List.append_nil] at b2
  have z : wpAny (model P w) (A.deeper (envF F f s0.heap.objs.size)) (call (.ref h'.objs.size) us) (EP (ncx CX P w K mg base N F f A outer s0 H0 E0) ((h'.objs.size, PySem.W.methodObj (.ref f2) (.ref a)) :: pins) σ Q) (ncx CX P w K mg base N F f A outer s0 H0 E0).xe s3 := by
    refine wpAny_call (PySem.W.method_call (pin_at I3) (codeAny_mono (G.run _ _ s3 H2 ⟨Value.ref a :: us, []⟩ (Value.ref a :: us) (V.ref a :: vs) Q (E σ) hr I3.env0 b2 (.cons rfl rv) q2) fun r s' hq => ?_))
    cases r with
    | error er => exact hx σ _ H2 s3 er s' I3 hq
    | ok fl =>
      cases fl with
      | ret u => exact I3.after hq
      | next => exact False.elim hq
      | brk => exact False.elim hq
      | cont => exact False.elim hq
  exact thn z fun _ _ y => unpinE y

/-! ### an error's __init__ -/
abbrev veInit : String := "ValueError.__init__"
theorem mw_run {X : Cx} {pins : List (Addr × Obj)} {σ : L2.St} {H : Hp} {s : Shared} {a C u : Addr} {us : List Value} {Q : Value → Shared → Prop} {Er : Value → Shared → Prop} {A : Around} (T : OexC X.K C) (I : Inv X pins σ H s) (ea : H a = some (exo a C none)) (hu : s.heap.get? u = some (PySem.W.kxs_mw veInit a)) (hl : us.length ≤ sizeLine)
    (h : ∀ s', Inv X pins σ H s' → Q .none s') : wpAny (model X.prog X.w) A (call (.ref u) us) Q Er s := by
  obtain ⟨nm, q, Ns, bs, bm, sn, sub, ab, col, dd, k0, k1, k2, k3, k5, hC, hbm⟩ := T.cls
  obtain ⟨t1, ho⟩ := exo_at I.hok ea
  have hC1 := I.kIn _ _ hC
  have fin : ∀ h', (∀ b o, b ≠ a → s.heap.get? b = some o → h'.get? b = some o) → (∃ t2 : Addr, h'.get? a = some ({ cls := .ref C, dict := none, data := .fields #[.ref t2, .none, .none, .none, .bool false, .none] } : Obj)) → Q .none { s with heap := h' } := fun h' k hx => by
    obtain ⟨t2, hx⟩ := hx
    have J := I.write (t' := s.toks) (x := a) (e := a) (o := exo a C none) (by rw [ea]; trivial) (.inl rfl) k ⟨_, hx⟩ (exo_ok hx)
    have eu : upd H a (exo a C none) = H := funext fun b => by
      by_cases hb : b = a
      · rw [hb, upd_same, ea]
      · exact upd_ne hb
    rw [eu] at J
    exact h _ J
  obtain ⟨hh, g, d, tk, os⟩ := s
  refine wpAny_call (codeAny_of_tree ?_)
  show wpAny _ A.in1 (callAny (.ref u) ⟨us, []⟩) _ _ _
  unfold callAny
  refine wpAny_bind (wpAny_load hu ?_)
  dsimp only [PySem.W.kxs_mw]
  rw [if_pos (by decide)]
  refine wpAny_bind (PySem.W.check_bound_init PySem.F.excBase_ValueError.toExcCallFacts hC1 ho rfl ?_)
  refine wpAny_bind (wpAny_pure (wpAny_pure ⟨plainId_quiet PySem.F.excBase_ValueError.init.plain _, codeAny_builtin PySem.F.excBase_ValueError.initEntry ?_⟩))
  exact PySem.W.exc_init_tree (cls := .ref C) (t0 := t1) (dv := none) (c2 := .none) (c3 := .none) (b4 := .bool false) ho hl fun h' k e1 _ => fin h' k ⟨_, e1⟩
theorem eAt_supE {pl : Sem Bool} (U : SupD K P F f D cc fd) (hmg : mg "super" = none) (hk : F.scope.kind = .function) (hN : N[0]? = some ("self" : Str)) (hs1 : F.scope.names.lookup ("self" : Str) = some .local) (hs2 : F.scope.names.lookup ("super" : Str) = some .globalImplicit)
    (hs3 : F.scope.names.lookup ("__class__" : Str) = some .free) (ha : PA (ncx CX P w K mg base N F f A outer s0 H0 E0) (e :: es) t)
    (hst : starEach (e :: es) (envF F f s0.heap.objs.size) = (false, eval e (envF F f s0.heap.objs.size)) :: starEach es (envF F f s0.heap.objs.size) := by rfl) (hpl : (backTo pos (starEach es (envF F f s0.heap.objs.size))).any (·.1) = false := by rfl)
    (ht : eval (.Call (.Attribute (.Call (.Name "super" p0) [] [] p1) "__init__" apos) (e :: es) [] pos) (envF F f s0.heap.objs.size) = (do
      let ov ← attributeBase (.Call (.Name "super" p0) [] [] p1) "__init__" (envF F f s0.heap.objs.size) (eval (.Call (.Name "super" p0) [] [] p1) (envF F f s0.heap.objs.size))
      standAt apos.atName
      let (g, first) ← holding [ov] (getMethod ov "__init__" pl)
      callWith pos g first (backTo pos (starEach (e :: es) (envF F f s0.heap.objs.size))) []) := by rfl) :
    EAt (ncx CX P w K mg base N F f A outer s0 H0 E0) body (.Call (.Attribute (.Call (.Name "super" p0) [] [] p1) "__init__" apos) (e :: es) [] pos) (tSupE K D t) := by
  refine ⟨fun pins s σ H Q I h => ?_⟩
  obtain ⟨a, C, hσ, ea, T, Z, q⟩ := h
  obtain ⟨t1, hx1⟩ := exo_at I.hok ea
  refine ks_wpAt_MethodCall (sup_base (Q := _) U hmg hk I hN hs1 hs2 hs3 hσ hx1 rfl (fun c z => nomatch z) Z.sub (by decide) fun so h' hso kp => ?_) ht
  have I1 : Inv (ncx CX P w K mg base N F f A outer s0 H0 E0) pins σ H { s with heap := h' } := I.kept (t' := s.toks) kp
  have X1 : K.In h' := I1.kIn
  obtain ⟨l₀, L0, hal, cd, hcd⟩ := super_get (M := model P w) X1 Z.at_
  have hxC : a ≠ C := fun z => by
    subst z
    unfold PySem.W.clsIn at hcd
    split at hcd
    · rename_i ho
      have y := X1 _ _ ho
      rw [kp _ _ hx1] at y
      cases y
    · cases hcd
  have LT : PySem.W.Looks (model P w) h' (typeOf (.ref a)) (.ref C) := fun A Q E s k q => wpAny_typeOf_ref (k _ _ (kp _ _ hx1)) q
  obtain ⟨hh, g, d, tk, os⟩ := s
  refine PySem.W.kxs_getMethod PySem.W.kxs_ValueError hso (PySem.W.looks_opaque X1 U.opq) L0 rfl X1 hal (LT.andThen (PySem.W.looks_subIn X1 Z.ve)) hxC (by decide) ?_
  have I2 : Inv (ncx CX P w K mg base N F f A outer s0 H0 E0) ((h'.objs.size, PySem.W.kxs_mw veInit a) :: pins) σ H ⟨h'.push (PySem.W.kxs_mw veInit a), g, d, tk + 1, os⟩ :=
    pin_new I1 (fun _ _ z => Heap.get?_push_of_some _ z) (Nat.le_refl _) (Heap.get?_push_size h' rfl) fun v z => nomatch z
  have hL := (I2.pin (h'.objs.size, PySem.W.kxs_mw veInit a) (List.mem_append_right _ List.mem_cons_self)).2.2.1
  refine PySem.W.kxs_callWith1 (i := veInit) (x := a) (news_at hL (base_none I1 (Nat.le_refl _)) (pin_at I2)) List.mem_cons_self (thn (ha.run pos _ _ σ H _ I2 q) fun us s3 ⟨vs, H2, I3, rv, hlen, e2, q2⟩ => ⟨pin_at I3, ?_⟩) hst hpl
  exact mw_run T I3 e2 (pin_at I3) (by rw [← Paired.length rv, sizeLine_eq]; omega) fun s' J => ⟨.non, H2, ClX.unpin J, rfl, q2⟩

/-- an error's __init__ with the fields fs: what it promises -/
def spE (C : Addr) (fs : List Str) (pre : List V → Prop) : Sp := fun vs H Q _ => ∃ a us, vs = .ref a :: us ∧ us.length = fs.length ∧ pre us ∧ H a = some (exo a C none) ∧ ∀ d, H d = none → d ≠ a → Q .non (upd (upd H d (exd d (fs.zip us).reverse)) a (exo a C (some d)))
theorem fn_err1 {C : Addr} {x fl : Str} {q0 q1 q2 ps1 ps2 : Pos} {te : TE} {pre : List V → Prop} (U : SupD K P F f D cc fd) (S : NScope N ["self", x] [("__class__" : Str)] F.scope) (hmg : mg "super" = none) (T : OexC K C) (Z : SupEr K D C) (hno : PySem.W.findIn K (.ref C) fl = some none)
    (hs2 : F.scope.names.lookup ("super" : Str) = some .globalImplicit) (hx : x ≠ "self")
    (hb : F.body = [.Expr (.Call (.Attribute (.Call (.Name "super" p0) [] [] p1) "__init__" apos) [e] [] pos) ps1, .Assign [.Attribute (.Name "self" q0) fl q1] (.Name x q2) ps2])
    (he : ∀ (A : Around) (outer : List Env) (s0 : Shared) (H0 : Hp) (E0 : XK), PE (ncx CX P w K mg base N F f A outer s0 H0 E0) e te) (hte : ∀ (a : Addr) (us : List V) (H : Hp) (Q : VK), pre us → (∀ v, Q v H) → te (startF N (.ref a :: us) [none]) H Q)
    (hst : ∀ env, starEach [e] env = [(false, eval e env)]) (hd1 : (x == ("__debug__" : Str)) = false) (hd2 : (x == ("__classdict__" : Str)) = false)
    (ht : ∀ env : Env, ∃ pl : Sem Bool, eval (.Call (.Attribute (.Call (.Name "super" p0) [] [] p1) "__init__" apos) [e] [] pos) env = (do
      let ov ← attributeBase (.Call (.Name "super" p0) [] [] p1) "__init__" env (eval (.Call (.Name "super" p0) [] [] p1) env)
      standAt apos.atName
      let (g, first) ← holding [ov] (getMethod ov "__init__" pl)
      callWith pos g first (backTo pos (starEach [e] env)) []))
    (hsw : ∀ env, swapsWith (.Call (.Attribute (.Call (.Name "super" p0) [] [] p1) "__init__" apos) [e] [] pos) none ps1.line env = pure false) : FnOk P w K mg base CX (k + 1) f fd ["self", x] (spE C [fl] pre) := by
  have hN0 : N[0]? = some ("self" : Str) ∧ N[1]? = some x := by
    have z : N.take 3 = [("self" : Str), x, ("__class__" : Str)] := S.pre
    constructor
    · have y : (N.take 3)[0]? = some ("self" : Str) := by rw [z] <;> rfl
      rwa [List.getElem?_take_of_lt (by decide)] at y
    · have y : (N.take 3)[1]? = some x := by rw [z] <;> rfl
      rwa [List.getElem?_take_of_lt (by decide)] at y
  refine fnS_of U S (fun vs H Q E h => ?_) (fun A outer s H vs Q E hr h => ?_)
  · obtain ⟨a, us, rfl, hl, _⟩ := h
    rw [List.length_cons, hl]
    rfl
  · obtain ⟨a, us, rfl, hl, hp, ea, q⟩ := h
    have l1 : F.scope.names.lookup ("self" : Str) = some .local := S.par _ (by simp)
    have l2 : F.scope.names.lookup x = some .local := S.par _ (by simp)
    obtain ⟨pl, hev⟩ := ht (envF F f s.heap.objs.size)
    have h1 := eAt_supE (CX := CX) (w := w) (A := A) (outer := outer) (s0 := s) (H0 := H) (E0 := E) (body := F.body) U hmg S.kind hN0.1 l1 hs2 (S.frk _ (by simp)) (pa_cons (he A outer s H E) pa_nil (hst _)) (hst _) rfl hev
    have v0 : PE (ncx CX P w K mg base N F f A outer s H E) (.Name "self" q0) (tVar 0) := pe_var hN0.1 (.inl l1) (by decide) (by decide)
    have v1 : PE (ncx CX P w K mg base N F f A outer s H E) (.Name x q2) (tVar 1) := pe_var hN0.2 (.inl l2) hd1 hd2
    have h2 := ssAt_cons (sAt_expr (pos := ps1) h1 (hsw _)) (SsAt.of (body := F.body) (pss_cons (ps_ost (f := fl) (p' := q1) (pos := ps2) v0 v1 rfl) pss_nil))
    have h3 : ∀ (ss : List Stmt) (t : TS), ss = F.body → SsAt (ncx CX P w K mg base N F f A outer s H E) F.body ss t → SsAt (ncx CX P w K mg base N F f A outer s H E) F.body F.body t := fun ss t e z => by
      subst e
      exact z
    refine ⟨_, h3 _ _ hb.symm h2, ?_⟩
    obtain ⟨u, rfl⟩ : ∃ u, us = [u] := by
      cases us with
      | nil => cases hl
      | cons u r =>
        cases r with
        | nil => exact ⟨u, rfl⟩
        | cons _ _ => cases hl
    refine ⟨a, C, rfl, ea, T, Z, hte a [u] H _ hp fun v => ⟨by simp, ea, ?_⟩⟩
    exact ⟨u, rfl, .ref a, rfl, a, C, rfl, T, hno, .inl ⟨ea, fun d h1 h2 => q d h1 h2⟩⟩
end
end Ty

set_option Elab.async false
set_option linter.all false
set_option maxRecDepth 100000
set_option maxHeartbeats 1000000
set_option autoImplicit false
/-! Hk: the head's hook, with defs that close over their class -/
namespace Ty
open PySem PySem.Spec PyProof.Rows L2 NdefX ClX He

structure DefS where
  at_ : Defn
  name : Str
  qual : Str
  params : Arguments
  body : List Stmt
  scope : Scope
  cls : Str
abbrev FnSW : Type := Option (Str × Str × Arguments × FuncBody × Scope × Addr × List Str × Addr)
def fnSW (K : Fg) (p : Defn) : FnSW := match K.lookup (fAd K p) with
  | some ⟨_, _, .func fd, _⟩ => some (fd.name, fd.qualname, fd.params, fd.body, fd.scope, fd.globals, fd.closure.map Prod.fst, fd.builtins)
  | _ => none
def DefS.val (d : DefS) : FnSW := some (d.name, d.qual, d.params, .stmts d.body, d.scope, mainGlobals, ["__class__"], builtinsNs)
def ccOf (K : Fg) (p : Defn) : Addr := match K.lookup (fAd K p) with
  | some ⟨_, _, .func fd, _⟩ => (match fd.closure with
    | [(_, c)] => c
    | _ => 0)
  | _ => 0
def cellB (K : Fg) (c D : Addr) : Bool := match K.lookup c with
  | some ⟨_, _, .cell (some (.ref E)), _⟩ => decide (E = D)
  | _ => false
def fileB (K : Fg) (c : Addr) (file : Str) : Bool := match K.lookup c with
  | some ⟨_, _, .fields vs, _⟩ => (match (vs[2]? : Option Value) with
    | some (Value.str x _) => file == x
    | _ => false)
  | _ => false
def selfB : Option Arg → Bool
  | some ar => decide (ar.arg = ("self" : Str))
  | none => false
theorem selfB_ok {o : Option Arg} (h : selfB o = true) : ∃ ar, o = some ar ∧ ar.arg = ("self" : Str) := by
  cases o with
  | none => cases h
  | some ar => exact ⟨ar, rfl, of_decide_eq_true h⟩
def noneB : Value → Bool
  | .none => true
  | _ => false
def DefS.ok (file : Str) (K : Fg) (d : DefS) : Bool := PySem.W.keepIn K (.ref (fAd K d.at_)) && ((match K.lookup (fAd K d.at_) with
  | some ⟨_, _, .func fd, _⟩ => PySem.W.codeIn K fd.code d.qual && (noneB fd.defaults && noneB fd.kwdefaults)
  | _ => false) && (cellB K (ccOf K d.at_) (ga K d.cls) && (fileB K (codeOf K d.at_) file && ((PySem.W.clsIn K (ga K d.cls)).isSome && selfB (d.params.posonlyargs ++ d.params.args).head?))))
abbrev DefS.nf (K : Fg) (d : DefS) : NF := ⟨d.name, d.qual, d.params, d.body, d.scope, [(("__class__" : Str), ccOf K d.at_)], codeOf K d.at_⟩
theorem noneB_ok {v : Value} (h : noneB v = true) : v = .none := by
  cases v <;> first | rfl | cases h
theorem DefS.supD {P : Program} {K : Fg} {d : DefS} {file : Str} (e : fnSW K d.at_ = d.val) (c : d.ok file K = true) (hf : P.main.file = file) (hs : (P.main.scope.names.lookup ("super" : Str)).isSome = false) (ho : PySem.W.nsIn K cStatics "thirdparty.any" = some none) :
    ∃ fd, SupD K P (d.nf K) (fAd K d.at_) (ga K d.cls) (ccOf K d.at_) fd := by
  obtain ⟨c1, c⟩ := ba c
  obtain ⟨c2, c⟩ := ba c
  obtain ⟨c3, c⟩ := ba c
  obtain ⟨c4, c⟩ := ba c
  obtain ⟨c5, c6⟩ := ba c
  unfold fnSW at e
  cases q : K.lookup (fAd K d.at_) with
  | none =>
    rw [q] at c2
    cases c2
  | some o =>
    obtain ⟨oc, od, dt, osl⟩ := o
    rw [q] at c2 e
    cases dt with
    | func fd =>
      have c2 : (PySem.W.codeIn K fd.code d.qual && (noneB fd.defaults && noneB fd.kwdefaults)) = true := c2
      obtain ⟨k1, c2⟩ := ba c2
      obtain ⟨k2, k3⟩ := ba c2
      have e2 : (some (fd.name, fd.qualname, fd.params, fd.body, fd.scope, fd.globals, fd.closure.map Prod.fst, fd.builtins) : FnSW) = some (d.name, d.qual, d.params, FuncBody.stmts d.body, d.scope, mainGlobals, [("__class__" : Str)], builtinsNs) := e
      obtain ⟨cr, hcr⟩ := codeIn_ref k1
      have hco : codeOf K d.at_ = cr := codeOf_eq q hcr
      have hcc : ccOf K d.at_ = (match fd.closure with | [(_, c)] => c | _ => 0) := by
        unfold ccOf
        rw [q]
      obtain ⟨n1, n2, n3, n4, n5, n6, n7, n8, n9, n10, n11, n12, n13, n14, n15⟩ := fd
      simp only [Option.some.injEq, Prod.mk.injEq] at e2
      obtain ⟨h1, h2, h3, h4, h5, h6, h7, h8⟩ := e2
      dsimp only at k1 k2 k3 hcr hcc h1 h2 h3 h4 h5 h6 h7 h8
      have k2 := noneB_ok k2
      have k3 := noneB_ok k3
      subst h1 h2 h3 h4 h5 h6 h8 hcr k2 k3
      obtain ⟨cc, rfl⟩ : ∃ cc, n7 = [(("__class__" : Str), cc)] := by
        cases n7 with
        | nil => cases h7
        | cons x r =>
          obtain ⟨x1, x2⟩ := x
          cases r with
          | cons y r =>
            have h7 := congrArg List.length h7
            simp at h7
          | nil =>
            injection h7 with h7 _
            exact ⟨x2, by rw [← h7]⟩
      have hcc : ccOf K d.at_ = cc := hcc
      refine ⟨_, ⟨rfl, ⟨oc, od, n10, n11, n12, n14, osl, ?_, q⟩, c1, (by show PySem.W.codeIn K (.ref (codeOf K d.at_)) d.qual = true; rw [hco]; exact k1), ?_, ?_, ?_, Option.isSome_iff_exists.mp c5, hs, ho⟩⟩
      · show _ = PySem.W.fnX d.name d.qual d.params d.body d.scope [(("__class__" : Str), ccOf K d.at_)] .none .none _ _ _ (.ref (codeOf K d.at_)) _
        rw [hco, hcc]
      · exact selfB_ok c6
      · show ∃ ccl cdd vs ccs f2 tf, K.lookup (codeOf K d.at_) = some ⟨ccl, cdd, .fields vs, ccs⟩ ∧ vs[2]? = some (.str f2 tf) ∧ ((P.main.file : Str) == f2) = true
        unfold fileB at c4
        cases q2 : K.lookup (codeOf K d.at_) with
        | none =>
          rw [q2] at c4
          cases c4
        | some o2 =>
          obtain ⟨a1, a2, dt2, a4⟩ := o2
          rw [q2] at c4
          cases dt2 with
          | fields vs =>
            have c4 : (match (vs[2]? : Option Value) with | some (Value.str x _) => file == x | _ => false) = true := c4
            cases q3 : (vs[2]? : Option Value) with
            | none =>
              rw [q3] at c4
              cases c4
            | some v =>
              rw [q3] at c4
              cases v with
              | str x t =>
                have c4 : (file == x) = true := c4
                exact ⟨a1, a2, vs, a4, x, t, rfl, q3, by rw [hf]; exact c4⟩
              | _ => cases c4
          | _ => cases c4
      · unfold cellB at c3
        cases q2 : K.lookup (ccOf K d.at_) with
        | none =>
          rw [q2] at c3
          cases c3
        | some o2 =>
          obtain ⟨a1, a2, dt2, a4⟩ := o2
          rw [q2] at c3
          cases dt2 with
          | cell v =>
            cases v with
            | none => cases c3
            | some v =>
              cases v with
              | ref E =>
                have c3 : decide (E = ga K d.cls) = true := c3
                exact ⟨a1, a2, a4, by rw [of_decide_eq_true c3]⟩
              | _ => cases c3
          | _ => cases c3
    | _ => cases c2

/-! ### the hook -/
structure SaysS (fa : List Fa) (fn : List DefD) (fs : List DefS) (file : Str) (ex : Fg → Bool) (K : Fg) : Prop where
  d : SaysD fa fn K
  e : ex K = true
  s : fs.map (fun d => fnSW K d.at_) = fs.map DefS.val
  o : fs.all (DefS.ok file K) = true
theorem SaysS.def_ {P : Program} {fa : List Fa} {fn : List DefD} {fs : List DefS} {file : Str} {ex : Fg → Bool} {K : Fg} (c : SaysS fa fn fs file ex K) (hf : P.main.file = file) (hs : (P.main.scope.names.lookup ("super" : Str)).isSome = false) (ho : PySem.W.nsIn K cStatics "thirdparty.any" = some none) (i : Nat) {d : DefS}
    (h : fs[i]? = some d := by rfl) : ∃ fd, SupD K P (d.nf K) (fAd K d.at_) (ga K d.cls) (ccOf K d.at_) fd := by
  have e : (fs.map fun d => fnSW K d.at_)[i]? = (fs.map DefS.val)[i]? := by rw [c.s]
  rw [List.getElem?_map, List.getElem?_map, h] at e
  exact DefS.supD (Option.some.inj e) (List.all_eq_true.mp c.o d (List.mem_of_getElem? h)) hf hs ho
abbrev AlS : Type := AlD × Bool × List FnSW
def obK (fa : List Fa) (fn : List DefD) (fs : List DefS) (file : Str) (ex : Fg → Bool) (K : Fg) : AlS := (obsD fa fn K, ex K && fs.all (DefS.ok file K), fs.map fun d => fnSW K d.at_)
def obsS (n : Nat) (fa : List Fa) (fn : List DefD) (fs : List DefS) (file : Str) (ex : Fg → Bool) (g : Addr → Option Obj) : AlS := obK fa fn fs file ex (frT g (asD g n ++ [cStatics]))
def hookS (n : Nat) (fa : List Fa) (fn : List DefD) (fs : List DefS) (file : Str) (ex : Fg → Bool) : PySem.W.Hook where
  α := AlS
  obs := fun s => obsS n fa fn fs file ex s.heap.get?
  val := fun _ => (valD fn, true, fs.map DefS.val)
  says := fun _ h => ∃ K : Fg, K.In h ∧ SaysS fa fn fs file ex K
  of := fun _ _ e => by
    have e1 := congrArg (fun z : AlS => z.1) e
    have e2 := congrArg (fun z : AlS => z.2.1) e
    have e3 := congrArg (fun z : AlS => z.2.2) e
    obtain ⟨h1, h2⟩ := ba e2
    exact ⟨_, frT_in, ⟨e1, h1, e3, h2⟩⟩
  keeps := fun _ _ _ ⟨K, hK, c⟩ k => ⟨K, PySem.W.Frag.In.keeps hK k, c⟩
theorem obsS_eq {n : Nat} {fa : List Fa} {fn : List DefD} {fs : List DefS} {file : Str} {ex : Fg → Bool} {g : Addr → Option Obj} {s : Shared} (h : ∀ a, g a = s.heap.get? a) : obsS n fa fn fs file ex g = (hookS n fa fn fs file ex).obs s := by
  have e : g = s.heap.get? := funext h
  subst e
  rfl
end Ty

set_option Elab.async false
set_option linter.all false
set_option maxRecDepth 100000
set_option maxHeartbeats 1000000
set_option autoImplicit false
/-! HkX: facts of classes by Bools -/
namespace Ty
open PySem PySem.Spec PyProof.Rows L2 NdefX ClX He

def slB : List (Option Value) → Bool
  | [_, _, _, _, some (.builtin n), _] => decide (n = "ValueError.__new__")
  | _ => false
theorem slB_ok {l : List (Option Value)} (h : slB l = true) : ∃ k0 k1 k2 k3 k5, l = [k0, k1, k2, k3, some (.builtin "ValueError.__new__"), k5] := by
  match l, h with
  | [k0, k1, k2, k3, some (.builtin n), k5], h => exact ⟨k0, k1, k2, k3, k5, by rw [of_decide_eq_true (show decide (n = "ValueError.__new__") = true from h)]⟩
def mroB (C : Addr) : List Value → Bool
  | .ref D :: bm => decide (D = C) && PySem.HandSPX.refsVE bm
  | _ => false
theorem mroB_ok {C : Addr} {l : List Value} (h : mroB C l = true) : ∃ bm, l = .ref C :: bm ∧ PySem.HandSPX.refsVE bm = true := by
  match l, h with
  | .ref D :: bm, h =>
    obtain ⟨h1, h2⟩ := ba (show (decide (D = C) && PySem.HandSPX.refsVE bm) = true from h)
    exact ⟨bm, by rw [of_decide_eq_true h1], h2⟩
def oexB (K : Fg) (C : Addr) : Bool := (match K.lookup C with
  | some ⟨.type t, _, .cls cd, sl⟩ => decide (t = "type") && (mroB C cd.mro && (cd.hasDict && (!cd.hasDel && slB sl.toList)))
  | _ => false) && (decide (PySem.W.findIn K (.ref C) "__setattr__" = some (some (.builtin "object.__setattr__"))) && (decide (PySem.W.subIn K (.ref C) (.type "BaseException") = some true) && (decide (PySem.W.typeIn K (.ref C) = some (.type "type")) && PySem.W.keepIn K (.ref C))))
theorem oexB_ok {K : Fg} {C : Addr} (h : oexB K C = true) : OexC K C := by
  obtain ⟨h1, h⟩ := ba h
  obtain ⟨h2, h⟩ := ba h
  obtain ⟨h3, h⟩ := ba h
  obtain ⟨h4, h5⟩ := ba h
  refine ⟨?_, of_decide_eq_true h2, of_decide_eq_true h3, of_decide_eq_true h4, h5⟩
  cases q : K.lookup C with
  | none =>
    rw [q] at h1
    cases h1
  | some o =>
    obtain ⟨oc, od, dt, sl⟩ := o
    rw [q] at h1
    cases oc with
    | type t =>
      cases dt with
      | cls cd =>
        have h1 : (decide (t = "type") && (mroB C cd.mro && (cd.hasDict && (!cd.hasDel && slB sl.toList)))) = true := h1
        obtain ⟨a1, h1⟩ := ba h1
        obtain ⟨a2, h1⟩ := ba h1
        obtain ⟨a3, h1⟩ := ba h1
        obtain ⟨a4, a5⟩ := ba h1
        obtain ⟨nm, bs, mro, ns, qn, hd, sn, sb, ab, col, del⟩ := cd
        dsimp only at a2 a3 a4
        obtain ⟨bm, e1, e2⟩ := mroB_ok a2
        obtain ⟨k0, k1, k2, k3, k5, e3⟩ := slB_ok a5
        obtain ⟨l⟩ := sl
        simp only at e3
        have a4 : del = false := by
          cases del with
          | false => rfl
          | true => cases a4
        subst e1 e3 a3 a4
        rw [of_decide_eq_true a1]
        exact ⟨nm, qn, ns, bs, bm, sn, sb, ab, col, od, k0, k1, k2, k3, k5, rfl, e2⟩
      | _ => cases h1
    | _ => cases dt <;> cases h1
def supErB (K : Fg) (C : Addr) : Bool := decide (PySem.W.mroIn K C (.ref C) = some true) && (decide (PySem.W.ks_superIn K C C "__init__" = some (some (.builtin "ValueError.__init__"))) && decide (PySem.W.subIn K (.ref C) (.type "ValueError") = some true))
theorem supErB_ok {K : Fg} {C : Addr} (h : supErB K C = true) : SupEr K C C := by
  obtain ⟨h1, h⟩ := ba h
  obtain ⟨h2, h3⟩ := ba h
  exact ⟨of_decide_eq_true h1, of_decide_eq_true h2, of_decide_eq_true h3⟩
def supToB (K : Fg) (D C : Addr) (m : Str) (f2 : Addr) : Bool := decide (PySem.W.mroIn K C (.ref D) = some true) && decide (PySem.W.ks_superIn K C D m = some (some (.ref f2)))
theorem supToB_ok {K : Fg} {D C : Addr} {m : Str} {f2 : Addr} (h : supToB K D C m f2 = true) : SupTo K D C m f2 := by
  obtain ⟨h1, h2⟩ := ba h
  exact ⟨of_decide_eq_true h1, of_decide_eq_true h2⟩
structure FnA (K : Fg) (f : Addr) : Prop where
  ty : PySem.W.typeIn K (.ref f) = some (.type "function")
  fn : PySem.W.fnIn K f = true
def fnB (K : Fg) (f : Addr) : Bool := decide (PySem.W.typeIn K (.ref f) = some (.type "function")) && PySem.W.fnIn K f
theorem fnB_ok {K : Fg} {f : Addr} (h : fnB K f = true) : FnA K f := by
  obtain ⟨h1, h2⟩ := ba h
  exact ⟨of_decide_eq_true h1, h2⟩
/-- an error's class: its instances are asked, made -/
structure ErrC (K : Fg) (C fI : Addr) : Prop where
  x : L2.XfC K C
  i : L2.ExcC K C
  cl : (PySem.W.clsIn K C).isSome = true
  init : PySem.W.findIn K (.ref C) "__init__" = some (some (.ref fI))
  ty : PySem.W.typeIn K (.ref fI) = some (.type "function")
  o : OexC K C
  s : SupEr K C C
def errB (K : Fg) (C fI : Addr) : Bool := xfB K C && (decide (PySem.W.findIn K (.ref C) "__class__" = some (some (.builtin "object.__class__"))) && (decide (PySem.W.specialIn K (.builtin "object.__class__") "__get__" = some (some (.builtin "getset_descriptor.__get__"))) && (decide (PySem.W.takesIn K (.builtin "object.__class__") = some true) &&
  (decide (PySem.W.mroIn K C (.type "object") = some true) && ((PySem.W.clsIn K C).isSome && (decide (PySem.W.findIn K (.ref C) "__init__" = some (some (.ref fI))) && (decide (PySem.W.typeIn K (.ref fI) = some (.type "function")) && (oexB K C && supErB K C))))))))
theorem errB_ok {K : Fg} {C fI : Addr} (h : errB K C fI = true) : ErrC K C fI := by
  obtain ⟨h1, h⟩ := ba h
  obtain ⟨h2, h⟩ := ba h
  obtain ⟨h3, h⟩ := ba h
  obtain ⟨h4, h⟩ := ba h
  obtain ⟨h5, h⟩ := ba h
  obtain ⟨h6, h⟩ := ba h
  obtain ⟨h7, h⟩ := ba h
  obtain ⟨h8, h⟩ := ba h
  obtain ⟨h9, h10⟩ := ba h
  have x := xfB_ok h1
  exact ⟨x, ⟨x.ga, x.gg, x.exC, x.hdC, of_decide_eq_true h2, of_decide_eq_true h3, of_decide_eq_true h4, of_decide_eq_true h5⟩, h6, of_decide_eq_true h7, of_decide_eq_true h8, oexB_ok h9, supErB_ok h10⟩
end Ty

set_option Elab.async false
set_option linter.all false
set_option maxRecDepth 100000
set_option maxHeartbeats 1000000
set_option autoImplicit false
/-! Ty, part T: try: .. except E as n: .. (the first clause takes what the body may raise), raise of an own error -/
namespace Ty
open PySem PySem.Spec PyProof.Rows L2 NdefX ClX

/-! ### an exception that is caught by the first clause -/
/-- what the first clause wishes: the exception is of its class -/
def wFst (K : Fg) (c : Value) (i : Nat) (ts : Addr → Value → Option Addr → TS) (D : Ends) : WX := fun cls d σ H => PySem.W.exmOne K cls c = some true ∧
  ∀ a, H a = none → ts a cls d { nx := fun σ' H' => D.nx (σ'.set i none) H', rt := D.rt, bk := fun σ' H' => D.bk (σ'.set i none) H', ct := fun σ' H' => D.ct (σ'.set i none) H' } (σ.set i (some (.ref a))) H
section
variable {X : Cx} {x n : Str} {c : Value} {i : Nat} {body suite : List Stmt} {b₀ : Stmt} {hds : List ExceptHandler} {np pos pos' : Pos} {tb : WX → TS} {ts : Addr → Value → Option Addr → TS}
/-- the clause's suite runs, then its name goes -/
theorem fst_suite {D : Ends} {pins : List (Addr × Obj)} {σ : L2.St} {H : Hp} {s : Shared} {B : Heap} {a : Addr} {cls : Value} {d : Option Addr} (ok : X.Ok) (hN : X.N.Nodup) (hi : X.N[i]? = some n) (hln : X.env.kindOf n = some .local) (hc : Names X x c)
    (J : ∀ h', HandSPX.FlyingZ B (X.env :: X.outer) a (Zc cls d) h' → s.heap.UpToSlots h' → Inv X pins σ H { s with heap := h' }) (fl : HandSPX.FlyingZ B (X.env :: X.outer) a (Zc cls d) s.heap) (hf : X.env.frame = some X.env.locals) (na : H a = none)
    (hsu : ∀ (a : Addr) (oe : Obj) (cls : Value) (d : Option Addr) (pn : List (Addr × Obj)), Zc cls d oe → (∃ vs, oe.data = .fields vs) → PSs (X.suite a ((a, oe) :: pn)) (b₀ :: suite) (ts a cls d)) (w : wFst X.K c i ts D cls d σ H) :
    wpAny (model X.prog X.w) X.A (handleBy (.ref a) X.env (.ExceptHandler (some (.Name x np)) (some n) (b₀ :: suite) pos' :: hds)) (SP X pins D) X.xe s := by
  obtain ⟨hyes, run⟩ := w
  have out : ∀ {h : Heap}, HandSPX.FlyingZ B (X.env :: X.outer) a (Zc cls d) h → ∃ oe vs, h.get? a = some oe ∧ Zc cls d oe ∧ oe.data = .fields vs ∧ a ≠ X.env.locals ∧ a ∉ X.fs := fun {h} y => by
    obtain ⟨oe, vs, e1, e2, e3⟩ := y.there
    have nf : a ∉ frs (X.env :: X.outer) := fun m => by
      obtain ⟨_, o2, e4, no⟩ := y.2.2.1.mem m
      rw [e1] at e4
      exact no _ ((congrArg Obj.data (Option.some.inj e4)).symm.trans e3)
    have two := List.mem_filterMap (f := Env.frame) (b := a) (l := X.env :: X.outer)
    refine ⟨oe, vs, e1, e2, e3, fun z => nf (two.mpr ⟨X.env, List.mem_cons_self, by rw [hf, z]⟩), fun m => ?_⟩
    obtain ⟨v, hv, q⟩ := List.mem_filterMap.mp m
    exact nf (two.mpr ⟨v, List.mem_cons_of_mem _ hv, q⟩)
  obtain ⟨oe, vs, e1, e2, e3, nl, nf⟩ := out fl
  have S := (J _ fl (Heap.UpToSlots.refl _)).suite e1 e3 na nl nf
  have kIn := S.kIn
  refine wpAny_handleBy_cons (codeAny_handlers_test ?_) fun q => nomatch q
  have LT : PySem.W.Looks (model X.prog X.w) s.heap (typeOf (.ref a)) cls := fun _ _ _ s k q => wpAny_typeOf_ref (k _ _ e1) (e2.1 ▸ q)
  have LM := PySem.W.exm_one kIn LT hyes
  have named : ∀ {Q Er : Value → Shared → Prop}, Q c s → wpAny (model X.prog X.w) (X.A.mark (some (.ref a))) (eval (.Name x np) X.env) Q Er s := fun {Q Er} q => by
    obtain ⟨g1, g2, g3⟩ := hc
    rcases g3 with g3 | ⟨g3, g4, g5⟩
    · exact ld_glob (X := X.suite a ((a, oe) :: (X.pn ++ pins))) S g1 g3 q g2
    · exact ld_blt (X := X.suite a ((a, oe) :: (X.pn ++ pins))) S g1 g3 g4 q g5 g2
  refine named (LM.here (codeAny_handlers_suite_as (HandSPX.lands_againZ fl fun h4 fl4 up4 => ?_)))
  obtain ⟨o4, v4, f1, f2, f3, nl4, nf4⟩ := out fl4
  have I4 := J h4 fl4 up4
  have gone : ∀ {σ6 : L2.St} {H6 : Hp} {Q : Shared → Prop} {s6 : Shared}, Inv (X.suite a ((a, o4) :: (X.pn ++ pins))) [] σ6 H6 s6 → (∀ s7, Inv X pins (σ6.set i none) H6 s7 → Q s7) → wpAny (model X.prog X.w) X.A (do bindName X.env n .none; unbindBehindTheSuite X.env n pos') (fun _ s7 => Q s7) X.xe s6 :=
    fun S6 hq => gone_ok (S6.unsuite ok) hN hi hln hq
  refine store_ok (X := X.suite a ((a, o4) :: (X.pn ++ pins))) (v := .ref a) (I4.suite f1 f3 na nl4 nf4) hN hi (.inl hln) rfl (fun s5 S5 => ?_) (.inr hln)
  refine wpAny_mono ((hsu a o4 cls d (X.pn ++ pins) f2 ⟨_, f3⟩).run [] s5 _ H _ S5 (run a na)) (fun f s6 hsp => ?_) fun _ _ z => z.elim
  cases f with
  | ret u =>
    obtain ⟨v, σ6, H6, S6, r6, q6⟩ := hsp
    exact gone S6 fun s7 J7 => ⟨v, _, H6, J7, r6, q6⟩
  | next =>
    obtain ⟨σ6, H6, S6, q6⟩ := hsp
    exact gone S6 fun s7 J7 => ⟨_, H6, J7, q6⟩
  | brk =>
    obtain ⟨σ6, H6, S6, q6⟩ := hsp
    exact gone S6 fun s7 J7 => ⟨_, H6, J7, q6⟩
  | cont =>
    obtain ⟨σ6, H6, S6, q6⟩ := hsp
    exact gone S6 fun s7 J7 => ⟨_, H6, J7, q6⟩
theorem ps_try_fst (hs : X.stack = X.env :: X.outer) (hf : X.env.frame = some X.env.locals) (hN : X.N.Nodup) (hi : X.N[i]? = some n) (hln : X.env.kindOf n = some .local) (hc : Names X x c)
    (hb : ∀ (W : WX) (pn : List (Addr × Obj)) (xe : Value → Shared → Prop), Takes (X.tr pn xe) W → PassesOwn (model X.prog X.w) X.A X.env xe → PSs (X.tr pn xe) body (tb W))
    (hsu : ∀ (a : Addr) (oe : Obj) (cls : Value) (d : Option Addr) (pn : List (Addr × Obj)), Zc cls d oe → (∃ vs, oe.data = .fields vs) → PSs (X.suite a ((a, oe) :: pn)) (b₀ :: suite) (ts a cls d)) :
    PS X (.Try body (.ExceptHandler (some (.Name x np)) (some n) (b₀ :: suite) pos' :: hds) [] [] pos) (fun D σ H => tb (wFst X.K c i ts D) D σ H) := by
  refine ⟨fun pins s σ H D I h => wpAny_Try_except ?_⟩
  have ok := I.ok
  have hfr : X.A.frames = some (X.env :: X.outer) := ok.frames.trans (congrArg some hs)
  refine wpAny_mono ((hb (wFst X.K c i ts D) (X.pn ++ pins) _ (fun u s' xx => ?_) PassesOwn.looking).run [] s σ H D (I.toTry _) h) (fun f s1 q => ?_) fun e s1 y => y
  · obtain ⟨a, B, sI, pins', σ', H', cls, d, rfl, J', nb, up, sky, na, os, ag, w⟩ := xx
    have JI : Inv X pins σ' H' sI := J'.ofTry ok
    have sky2 : Sky B (X.env :: X.outer) a (Zc cls d) X.env.locals s'.heap := hs ▸ sky
    show wpAny (model X.prog X.w) X.A (noteFrame (.ref a) X.env) _ _ _
    refine Sky.land Zc.steady hfr hf sky2 fun h3 fl3 up3 => ?_
    exact fst_suite (s := { s' with heap := h3 }) ok hN hi hln hc (fun h4 fl4 up4 => JI.landed (s' := { s' with heap := h4 }) nb fl4.1 ((up.trans up3).trans up4) os ag) fl3 hf na hsu w
  · cases f with
    | ret u =>
      obtain ⟨v, σ', H', J', r, q⟩ := q
      exact ⟨v, σ', H', J'.ofTry ok, r, q⟩
    | next =>
      obtain ⟨σ', H', J', q⟩ := q
      exact wpAny_execs_nil ⟨σ', H', J'.ofTry ok, q⟩
    | brk =>
      obtain ⟨σ', H', J', q⟩ := q
      exact ⟨σ', H', J'.ofTry ok, q⟩
    | cont =>
      obtain ⟨σ', H', J', q⟩ := q
      exact ⟨σ', H', J'.ofTry ok, q⟩
end
end Ty

set_option Elab.async false
set_option linter.all false
set_option maxRecDepth 100000
set_option maxHeartbeats 1000000
set_option autoImplicit false
/-! Ty, part U: the rules for try, raise, a caught error, defs called in an except suite -/
namespace Ty
open PySem PySem.Spec PyProof.Rows L2 NdefX ClX L2H

mutual
theorem dp_up {K : Fg} {G G' : Hp} (x : Ex G G') : ∀ {v : V} {d : PyData}, Dp K G v d → Dp K G' v d
  | _, _, .non => .non
  | _, _, .bl b => .bl b
  | _, _, .int i => .int i
  | _, _, .str z => .str z
  | _, _, .lst h t => .lst (x.sl h) (dp_upA x t)
  | _, _, .tup h t => .tup (x.st h) (dp_upA x t)
theorem dp_upA {K : Fg} {G G' : Hp} (x : Ex G G') : ∀ {vs : List V} {ds : List PyData}, DpAll K G vs ds → DpAll K G' vs ds
  | _, _, .nil => .nil
  | _, _, .cons h t => .cons (dp_up x h) (dp_upA x t)
end
theorem XRep.mono {K : Fg} {G G' H H' : Hp} {cls : Value} {d : Option Addr} {e : Exn} (x : Ex G G') (h : XRep K G H cls d e) : XRep K G' H' cls d e := by
  obtain ⟨h1, a, fs, h2, h3, h4⟩ := h
  exact ⟨h1, a, fs, h2, x _ _ h3, fun f v q => let ⟨u, q1, q2⟩ := h4 f v q; ⟨u, q1, dp_up x q2⟩⟩
/-- the caught error at a: its class, its dict -/
abbrev rpEx (a : Addr) (cls : Value) (d : Option Addr) : Rp Exn := ⟨fun K G v e => v = .ref a ∧ XRep K G G cls d e, fun x h => ⟨h.1, h.2.mono x⟩⟩
/-- a block whose exceptions leave with the slots of its entry -/
structure JX (X : Cx) (c : Cn) (ss : List Stmt) (ρ : List Sl) {S L β : Type} (out : S → List Sl) (lp : L → List Sl) (i : Rp β) (t : TS) (Φ : Pt (Out S L β)) : Prop where
  pe : PSs X ss t
  sem : ∀ post ep, Φ post ep → ∀ G H σ, Gr c.rs c.G0 c.H0 G H → En X.K c.rs c.H0 G H σ ρ → ∀ D : Ends, EndsOk X c G i out lp post D → XOk X c G H σ ep → t D σ H
theorem JX.conv {X : Cx} {c : Cn} {ss : List Stmt} {ρ : List Sl} {S L β : Type} {out : S → List Sl} {lp : L → List Sl} {i : Rp β} {t t' : TS} {Φ Φ' : Pt (Out S L β)} (h : JX X c ss ρ out lp i t Φ) (ht : t = t') (hf : Φ = Φ') : JX X c ss ρ out lp i t' Φ' := ht ▸ hf ▸ h
section
variable {X : Cx} {c : Cn} {ρ : List Sl} {S L β α : Type} {out : S → List Sl} {lp : L → List Sl} {i : Rp β} {iα : Rp α} {pos : Pos} {rest : List Stmt} {tr : TS} {e : Expr} {te : TE} {Φe : Pt α}
theorem jx_nil (s : S) (h : EnLe ρ (out s)) : JX X c [] ρ out lp i tNext (fun post _ => post (.nx s)) :=
  ⟨pss_nil, fun post ep φ G H σ g E D k hx => k.nx G H σ s g (Ex.refl _) (E.le h) φ⟩
theorem jx_expr {Φr : Pt (Out S L β)} (he : JE X c e ρ iα te Φe) (hr : JX X c rest ρ out lp i tr Φr) (hs : swapsWith e none pos.line X.env = pure false := by rfl) : JX X c (.Expr e pos :: rest) ρ out lp i (tSeq (tDrop te) tr) (fun post ep => Φe (fun _ => Φr post ep) ep) :=
  ⟨pss_cons (ps_expr he.pe hs) hr.pe, fun post ep φ G H σ g E D k hx => he.sem _ _ φ G H σ g.w E _ (fun G1 H1 v m g1 r p => hr.sem _ _ p G1 H1 σ (g.trans g1) (E.up g1) D (k.up g1.g) (hx.up g1)) hx⟩
theorem jx_ret {Φe : Pt β} (he : JE X c e ρ i te Φe) : JX X c (.Return (some e) pos :: rest) ρ out lp i (tSeq (tRet te) tNever) (fun post ep => Φe (fun m => post (.rt m)) ep) :=
  ⟨pss_cons (ps_ret he.pe) pss_never, fun post ep φ G H σ g E D k hx => he.sem _ _ φ G H σ g.w E _ (fun G1 H1 v m g1 r p => k.rt G1 H1 v m (g.trans g1) g1.g r p) hx⟩
/-- an assignment that is the last statement -/
theorem jx_set {s : α → S} (j : Nat) {x : Str} {px : Pos} (hN : X.N.Nodup) (he : JE X c e ρ iα te Φe) (hle : ∀ m, EnLe (ρ.set j (.val iα m)) (out (s m))) (hj : X.N[j]? = some x := by rfl) (hx : Loc X.env.scope x := by first | exact Or.inl rfl | exact Or.inr rfl)
    (hs : swapsWith e (some (.Name x px)) pos.line X.env = pure false := by rfl) (hf : X.fn x = true ∨ X.env.scope.names.lookup x = some .local := by first | exact .inl rfl | exact .inr rfl) :
    JX X c [.Assign [.Name x px] e pos] ρ out lp i (tSeq (tAsg te (gName j)) tNext) (fun post ep => Φe (fun m => post (.nx (s m))) ep) :=
  ⟨pss_cons (ps_set hN hj hx he.pe hs hf) pss_nil, fun post ep φ G H σ g E D k hx => he.sem _ _ φ G H σ g.w E _ (fun G1 H1 v m g1 r p => k.nx G1 H1 _ (s m) (g.trans g1) g1.g (((E.up g1).set (x := .val iα m) ⟨v, rfl, r⟩ rfl).le (hle m)) p) hx⟩
theorem jx_if {t : Expr} {b1 b2 : List Stmt} {tt : TT} {t1 t2 : TS} {Φt : Pt Bool} {Φ1 Φ2 : Pt (Out S L β)} (ht : JT X c t ρ tt Φt) (h1 : JX X c b1 ρ out lp i t1 Φ1) (h2 : JX X c b2 ρ out lp i t2 Φ2) :
    JX X c [.If t b1 b2 pos] ρ out lp i (tIfS tt t1 t2) (fun post ep => Φt (fun k => if k = true then Φ1 post ep else Φ2 post ep) ep) := by
  refine ⟨pss_one (ps_if ht.pe h1.pe h2.pe), fun post ep φ G H σ g E D k hx => ?_⟩
  refine ht.sem _ _ φ G H σ g.w E _ (fun G1 H1 m g1 p => ?_) hx
  cases m with
  | true => exact h1.sem _ _ p G1 H1 σ (g.trans g1) (E.up g1) _ (k.up g1.g) (hx.up g1)
  | false => exact h2.sem _ _ p G1 H1 σ (g.trans g1) (E.up g1) _ (k.up g1.g) (hx.up g1)
end

/-! ### try -/
/-- a wish that takes any exception -/
def xeT (X : Cx) : Value → Shared → Prop := fun e s₁ => wpAny (model X.prog X.w) X.A (noteFrame e X.env) (fun _ s₂ => wpAny (model X.prog X.w) X.A (setFlight e none) (fun _ _ => True) X.xe s₂) X.xe s₁
theorem takes_any {X : Cx} {W : WX} (hs : X.stack = X.env :: X.outer) (hf : X.env.frame = some X.env.locals) : Takes (X.tr [] (xeT X)) W := fun u s' xx => by
  obtain ⟨a, B, sI, pins', σ', H', cls, d, rfl, J, nb, up, sky, na, os, ag, w⟩ := xx
  have sky2 : Sky B (X.env :: X.outer) a (Zc cls d) X.env.locals s'.heap := hs ▸ sky
  exact Sky.land Zc.steady (J.ok.frames.trans (congrArg some hs)) hf sky2 fun h3 fl3 up3 => trivial
theorem passes_xeT {X : Cx} : PassesOwn (model X.prog X.w) X.A X.env (xeT X) := PassesOwn.looking
theorem En.unset1 {K : Fg} {rs : Rs} {H0 G H : Hp} {σ : L2.St} {ρ : List Sl} {j : Nat} (E : En K rs H0 G H σ ρ) (h : ρ[j]? = some .no) : En K rs H0 G H (σ.set j none) ρ := by
  have e : ρ.set j .no = ρ := List.ext_getElem? fun i => by
    by_cases z : j = i
    · subst z
      rw [List.getElem?_set_self (List.getElem?_eq_some_iff.mp h).1, h]
    · exact List.getElem?_set_ne z
  have E2 := E.unset (j := j)
  rwa [e] at E2
abbrev Cn.as (c : Cn) (W : WX) : Cn := ⟨c.rs, c.G0, c.H0, W⟩
section
variable {X : Cx} {c : Cn} {ρ : List Sl} {M S L β : Type} {mid : M → List Sl} {out : S → List Sl} {lp : L → List Sl} {i : Rp β} {rest body suite : List Stmt} {b₀ : Stmt} {hds : List ExceptHandler} {tr : TS} {tb : WX → TS} {ts : Addr → Value → Option Addr → TS} {x n : Str} {np pos pos' : Pos} {C : Addr}
theorem b_try [Nonempty M] {Φb : Pt (Out M L β)} {Φs : Exn → Pt (Out M L β)} {Φr : M → Pt (Out S L β)} (j : Nat) (hs : X.stack = X.env :: X.outer) (hf : X.env.frame = some X.env.locals) (hN : X.N.Nodup) (hi : X.N[j]? = some n) (hln : X.env.kindOf n = some .local) (hm : X.mg x = some (.ref C)) (hC : C = He.ga X.K x) (hg : Gl X x) (hdb : (x == ("__debug__" : Str)) = false)
    (hexm : PySem.W.exmOne X.K (.ref C) (.ref C) = some true) (hno : ∀ s, (mid s)[j]? = some .no) (hnl : ∀ l, (lp l)[j]? = some .no) (hρ : ρ[j]? = some .no)
    (hb : ∀ (W : WX) (pn : List (Addr × Obj)) (xe : Value → Shared → Prop), Takes (X.tr pn xe) W → PassesOwn (model X.prog X.w) X.A X.env xe → JX (X.tr pn xe) (c.as W) body ρ mid lp i (tb W) Φb)
    (hsu : ∀ (a : Addr) (oe : Obj) (cls : Value) (d : Option Addr) (pn : List (Addr × Obj)) (e : Exn), Zc cls d oe → (∃ vs, oe.data = .fields vs) → JB (X.suite a ((a, oe) :: pn)) (c.as fun _ _ _ _ => False) (b₀ :: suite) (ρ.set j (.val (rpEx a cls d) e)) mid lp i (ts a cls d) (Φs e))
    (hr : ∀ s, JB X c rest (mid s) out lp i tr (Φr s)) :
    JB X c (.Try body (.ExceptHandler (some (.Name x np)) (some n) (b₀ :: suite) pos' :: hds) [] [] pos :: rest) ρ out lp i (tSeq (fun D σ H => tb (wFst X.K (.ref C) j ts D) D σ H) tr)
      (fun post ep => Φb (seqP Φr post ep) (fun e => e.cls = x ∧ Φs e (seqP Φr post ep) (fun _ => False))) := by
  refine ⟨pss_cons (ps_try_fst hs hf hN hi hln ⟨hg, hdb, .inl hm⟩ (fun W pn xe tk pa => (hb W pn xe tk pa).pe) fun a oe cls d pn z f => (hsu a oe cls d pn ⟨Str.empty, []⟩ z f).pe) (hr (Classical.choice inferInstance)).pe, fun post ep φ G H σ g E D k hx => ?_⟩
  have ends : ∀ {G1 : Hp}, Ex G G1 → EndsOk X c G1 i mid lp (seqP Φr post ep) { D with nx := tr D } := fun x1 =>
    ⟨fun G' H' σ' s g' x' E' p' => (hr s).sem _ _ p' G' H' σ' g' E' D (k.up (x1.trans x')) hx, fun G' H' v b g' x' r p' => k.rt G' H' v b g' (x1.trans x') r p', fun G' H' σ' l g' x' E' p' => k.bk G' H' σ' l g' (x1.trans x') E' p', fun G' H' σ' l g' x' E' p' => k.ct G' H' σ' l g' (x1.trans x') E' p'⟩
  refine (hb (wFst X.K (.ref C) j ts { D with nx := tr D }) [] (xeT X) (takes_any hs hf) passes_xeT).sem _ _ φ G H σ g E { D with nx := tr D } ⟨(ends (Ex.refl _)).nx, (ends (Ex.refl _)).rt, (ends (Ex.refl _)).bk, (ends (Ex.refl _)).ct⟩ fun G' H' cls d e g1 r p => ?_
  obtain ⟨p1, p2⟩ := p
  have ec : cls = .ref C := by rw [r.1, p1, hC]
  refine ⟨by rw [ec]; exact hexm, fun a na => ?_⟩
  have x1 := g1.g
  refine (hsu a ⟨cls, d, .fields #[], #[]⟩ cls d [] e ⟨rfl, rfl⟩ ⟨_, rfl⟩).sem _ _ p2 G' H' _ (g.trans g1) ((E.up g1).set (x := .val (rpEx a cls d) e) ⟨.ref a, rfl, rfl, r.mono (Ex.refl _)⟩ rfl) _ ?_ fun _ _ _ _ _ _ _ _ z => z.elim
  have en := ends x1
  exact ⟨fun G4 H4 σ4 s4 g4 x4 E4 p4 => en.nx G4 H4 _ s4 g4 x4 (E4.unset1 (hno s4)) p4, fun G4 H4 v b g4 x4 r4 p4 => en.rt G4 H4 v b g4 x4 r4 p4, fun G4 H4 σ4 l g4 x4 E4 p4 => en.bk G4 H4 _ l g4 x4 (E4.unset1 (hnl l)) p4, fun G4 H4 σ4 l g4 x4 E4 p4 => en.ct G4 H4 _ l g4 x4 (E4.unset1 (hnl l)) p4⟩
end

/-! ### raise -/
section
variable {X : Cx} {c : Cn} {ρ : List Sl} {S L β α : Type} {out : S → List Sl} {lp : L → List Sl} {i : Rp β} {iα : Rp α} {rest : List Stmt} {tr : TS} {Φr : Pt (Out S L β)} {e : Expr} {te : TE} {Φe : Pt α} {x fl pn : Str} {p pos pos' : Pos} {C fI : Addr} {fd : FuncData} {k : Nat}
def tRaise1 (W : WX) (C : Addr) (fl : Str) (te : TE) : TS := fun _ σ H => tMkO C (spE C [fl] fun _ => True) [] (tCons te tNil) σ H fun cls d H' => W cls d σ H'
/-- raise E(e), E with one field -/
theorem b_raise1 [dα : Dat α iα] (T : ErrC X.K C fI) (hC : C = He.ga X.K x) (F : FnOk X.prog X.w X.K X.mg X.base (L2.CX X.prog X.w) k fI fd ["self", pn] (spE C [fl] fun _ => True)) (hr : Room (k + 1) X.A) (hb : Binds X.K fd ["self", pn] []) (hc : X.calm = true) (hm : X.mg x = some (.ref C)) (tk : Takes X c.wsh) (he : JE X c e ρ iα te Φe) (hrest : JB X c rest ρ out lp i tr Φr)
    (hg : Gl X x := by rfl) (hdb : (x == ("__debug__" : Str)) = false := by decide) (hst : starEach [e] X.env = (false, eval e X.env) :: starEach [] X.env := by rfl) :
    JB X c (.Raise (some (.Call (.Name x p) [e] [] pos)) none pos' :: rest) ρ out lp i (tSeq (tRaise1 c.wsh C fl te) tr) (fun post ep => Φe (fun m => ep ⟨x, [(fl, dα.enc m)]⟩) ep) := by
  have hpass : Passes (L2.CX X.prog X.w) X fun _ _ _ => False := fun pins σ H s e s' I ⟨_, _, _, _, _, _, _, _, _, _, _, _, z⟩ => z.elim
  refine ⟨pss_cons (ps_raise hc tk (pmk_oex T.o T.init T.ty F hr hb .nil hpass hg hm (pa_cons he.pe pa_nil hst) hdb hst)) hrest.pe, fun post ep φ G H σ g E D kk hx => ?_⟩
  refine he.sem _ _ φ G H σ g.w E _ (fun G1 H1 v m g1 r q => ?_) (hx.at g)
  show [v].length ≤ 1000 ∧ _
  refine ⟨by simp, fun a na => ⟨a, [v], rfl, rfl, trivial, upd_same, fun d hd hda => ⟨rfl, d, [(fl, v)], upd_same, by rw [upd_ne hda]; exact upd_same, ?_, ?_⟩⟩⟩
  · rw [upd_ne hda] at hd
    exact hd
  · rw [upd_ne hda] at hd
    have eH : upd (del (upd (upd (upd H1 a (exo a C none)) d (exd d [(fl, v)])) a (exo a C (some d))) a) d (.xd [(fl, v)]) = upd H1 d (.xd [(fl, v)]) := funext fun b => by
      by_cases z : b = d
      · rw [z, upd_same, upd_same]
      · rw [upd_ne z, upd_ne z]
        by_cases y : b = a
        · rw [y, del_same, na]
        · rw [del_ne y, upd_ne y, upd_ne z, upd_ne y]
    have eL : ([fl].zip [v]).reverse = [(fl, v)] := rfl
    rw [eL]
    show c.wsh (.ref C) (some d) σ (upd (del (upd (upd (upd H1 a (exo a C none)) d (exd d [(fl, v)])) a (exo a C (some d))) a) d (.xd [(fl, v)]))
    rw [eH]
    have g2 := gr_new (o := .xd [(fl, v)]) g1.w hd
    refine hx (upd G1 d (.xd [(fl, v)])) (upd H1 d (.xd [(fl, v)])) σ (.ref C) (some d) ⟨x, [(fl, dα.enc m)]⟩ ((g.trans g1).trans g2) ⟨by rw [hC], d, _, rfl, upd_same, fun f u z => ?_⟩ q
    rw [List.lookup_cons] at z ⊢
    cases zf : (f == fl) with
    | true =>
      rw [zf] at z
      cases z
      exact ⟨v, rfl, dp_up g2.g (dα.dp r)⟩
    | false =>
      rw [zf] at z
      cases z
end
end Ty

set_option Elab.async false
set_option linter.all false
set_option maxRecDepth 100000
set_option maxHeartbeats 1000000
set_option autoImplicit false
/-! Ty, part V: bodies with super(); instances of a line of classes; __init__ by super().__init__ -/
namespace Ty
open PySem PySem.Spec PyProof.Rows L2 NdefX ClX

structure JS (X : Cx) (c : Cn) (body ss : List Stmt) (ρ : List Sl) {S L β : Type} (out : S → List Sl) (lp : L → List Sl) (i : Rp β) (t : TS) (Φ : Pt (Out S L β)) : Prop where
  pe : SsAt X body ss t
  sem : ∀ post ep, Φ post ep → ∀ G H σ, Gr c.rs c.G0 c.H0 G H → En X.K c.rs c.H0 G H σ ρ → ∀ D : Ends, EndsOk X c G i out lp post D → XOkS X c ep → t D σ H
structure JES (X : Cx) (c : Cn) (body : List Stmt) (e : Expr) (ρ : List Sl) {α : Type} (i : Rp α) (t : TE) (Φ : Pt α) : Prop where
  pe : EAt X body e t
  sem : ∀ post ep, Φ post ep → ∀ G H σ, Wd c.rs G H → En X.K c.rs c.H0 G H σ ρ → ∀ Q : VK, (∀ G' H' v m, Gr c.rs G H G' H' → i.rp X.K G' v m → post m → Q v H') → XOk X c G H σ ep → t σ H Q
section
variable {X : Cx} {c : Cn} {body : List Stmt} {ρ : List Sl} {S L β α : Type} {out : S → List Sl} {lp : L → List Sl} {i : Rp β} {iα : Rp α} {pos px : Pos} {rest : List Stmt} {tr : TS} {e : Expr} {te : TE} {Φe : Pt α}
theorem js_of {Φr : Pt (Out S L β)} (h : JB X c rest ρ out lp i tr Φr) : JS X c body rest ρ out lp i tr Φr := ⟨SsAt.of h.pe, h.sem⟩
theorem js_set [Nonempty α] (j : Nat) {x : Str} {Φr : α → Pt (Out S L β)} (hN : X.N.Nodup) (he : JES X c body e ρ iα te Φe) (hr : ∀ m, JB X c rest (ρ.set j (.val iα m)) out lp i tr (Φr m)) (hj : X.N[j]? = some x := by rfl) (hx : X.env.scope.names.lookup x = some .local := by rfl)
    (hs : swapsWith e (some (.Name x px)) pos.line X.env = pure false := by rfl) : JS X c body (.Assign [.Name x px] e pos :: rest) ρ out lp i (tSeq (tAsg te (gName j)) tr) (fun post ep => Φe (fun m => Φr m post ep) ep) := by
  refine ⟨ssAt_cons (sAt_asg he.pe hN hj hx hs) (SsAt.of (hr (Classical.choice inferInstance)).pe), fun post ep φ G H σ g E D k hx => ?_⟩
  refine he.sem _ _ φ G H σ g.w E _ (fun G1 H1 v m g1 r p => ?_) (hx.at g)
  exact (hr m).sem _ _ p G1 H1 _ (g.trans g1) ((E.up g1).set (x := .val iα m) ⟨v, rfl, r⟩ rfl) D (k.up g1.g) hx
theorem js_ret {Φe : Pt β} (he : JES X c body e ρ i te Φe) : JS X c body [.Return (some e) pos] ρ out lp i (tSeq (tRet te) tNext) (fun post ep => Φe (fun m => post (.rt m)) ep) :=
  ⟨ssAt_cons (sAt_ret he.pe) (SsAt.of pss_nil), fun post ep φ G H σ g E D k hx => he.sem _ _ φ G H σ g.w E _ (fun G1 H1 v m g1 r p => k.rt G1 H1 v m (g.trans g1) g1.g r p) (hx.at g)⟩
theorem js_if [Nonempty α] {t : Expr} {b1 b2 : List Stmt} {tt : TT} {t1 t2 : TS} {Φt : Pt Bool} {Φ1 Φ2 : Pt (Out α L β)} {Φr : α → Pt (Out S L β)} {mid : α → List Sl} (ht : JT X c t ρ tt Φt) (h1 : JB X c b1 ρ mid lp i t1 Φ1) (h2 : JB X c b2 ρ mid lp i t2 Φ2) (hr : ∀ s, JS X c body rest (mid s) out lp i tr (Φr s)) :
    JS X c body (.If t b1 b2 pos :: rest) ρ out lp i (tSeq (tIfS tt t1 t2) tr) (fun post ep => Φt (fun k => if k = true then Φ1 (seqP Φr post ep) ep else Φ2 (seqP Φr post ep) ep) ep) := by
  refine ⟨ssAt_cons (SAt.of (ps_if ht.pe h1.pe h2.pe)) (hr (Classical.choice inferInstance)).pe, fun post ep φ G H σ g E D k hx => ?_⟩
  refine ht.sem _ _ φ G H σ g.w E _ (fun G1 H1 m g1 p => ?_) (hx.at g)
  have k1 := k.up g1.g
  have ends : EndsOk X c G1 i mid lp (seqP Φr post ep) { D with nx := tr D } :=
    ⟨fun G' H' σ' s g' x' E' p' => (hr s).sem _ _ p' G' H' σ' g' E' D (k1.up x') hx, fun _ _ v b g' x' r p' => k1.rt _ _ v b g' x' r p', fun _ _ σ' l g' x' E' p' => k1.bk _ _ σ' l g' x' E' p', fun _ _ σ' l g' x' E' p' => k1.ct _ _ σ' l g' x' E' p'⟩
  cases m with
  | true => exact h1.sem _ _ p G1 H1 σ (g.trans g1) (E.up g1) _ ends hx
  | false => exact h2.sem _ _ p G1 H1 σ (g.trans g1) (E.up g1) _ ends hx
end

/-! ### instances whose class depends on the value -/
abbrev rpIns {α : Type} (cls : Fg → α → Addr) (fs : α → List (Str × Fp)) : Rp α := ⟨fun K G v m => ∃ a dx vs, v = .ref a ∧ G a = some (.ins (cls K m) dx vs) ∧ FlAll K G vs (fs m), fun x h => by
  obtain ⟨a, dx, vs, h1, h2, h3⟩ := h
  exact ⟨a, dx, vs, h1, x _ _ h2, h3.mono x⟩⟩
theorem no_key {vs : List (Str × V)} {m : Str} (h : ¬ m ∈ vs.map (·.1)) : vs.lookup m = none := by
  induction vs with
  | nil => rfl
  | cons p r ih =>
    obtain ⟨f, v⟩ := p
    have h1 : ¬ m = f := fun z => h (by rw [z]; exact List.mem_cons_self)
    rw [List.lookup_cons, beq_eq_false_iff_ne.mpr h1]
    exact ih fun z => h (List.mem_cons_of_mem _ z)
def tMethD (Dp : Addr → Prop) (m : Str) (sp : Addr → Sp) (E : L2.St → XK) (ta : TE) (t : TA) : TE := fun σ H Q => ta σ H fun x H1 => ∃ a C dx fs, x = .ref a ∧ H1 a = some (.ins C dx fs) ∧ fs.lookup m = none ∧ Dp C ∧ t σ H1 fun vs H2 => sp C (x :: vs) H2 Q (E σ)
def tCallD (Dp : Addr → Prop) (sp : Addr → Sp) (E : L2.St → XK) (ta : TE) (t : TA) : TE := fun σ H Q => ta σ H fun x H1 => ∃ a, x = .ref a ∧ t σ H1 fun vs H2 => ∃ C dx fs, H2 a = some (.ins C dx fs) ∧ Dp C ∧ sp C (x :: vs) H2 Q (E σ)
/-- the promise at the class C -/
abbrev spC {α β ι : Type} (K : Fg) (cls : Fg → α → Addr) (fs : α → List (Str × Fp)) (as : ι → List Sl) (iβ : Rp β) (Φ : α × ι → Pt β) (C : Addr) : Sp := spOf K rs0 (aCons (rpIns cls fs) as) iβ fun x post ep => cls K x.1 = C ∧ Φ x post ep
section
variable {X : Cx} {c : Cn} {ρ : List Sl} {α β ι : Type} {cls : Fg → α → Addr} {fs : α → List (Str × Fp)} {iβ : Rp β} {as : ι → List Sl} {e o : Expr} {es : List Expr} {te ta : TE} {t : TA} {Φe Φo : Pt α} {Φr : Pt ι} {f m : Str} {pos apos : Pos} {k : Nat} {ps : List Str}
/-- a field that some of them have -/
theorem e_fldC {pre : α → Prop} {get : α → β} (hf : ∀ x, pre x → ∃ l r, fs x = l ++ (f, fld iβ (get x)) :: r ∧ ¬ f ∈ l.map (·.1)) (hc : ∀ x, pre x → Cls X.K (cls X.K x) ∧ NoAttr X.K (cls X.K x) f) (he : JE X c e ρ (rpIns cls fs) te Φe) (hb : attributeBase e f X.env (eval e X.env) = eval e X.env := by rfl) :
    JE X c (.Attribute e f pos) ρ iβ (tFld X.K te f) (fun post ep => Φe (fun x => pre x ∧ post (get x)) ep) := by
  refine ⟨pe_fld he.pe hb, fun post ep φ G H σ w E Q k hx => he.sem _ _ φ G H σ w E _ (fun G1 H1 v x g r p => ?_) hx⟩
  obtain ⟨p1, p2⟩ := p
  obtain ⟨a, dx, vs, rfl, h1, h2⟩ := r
  obtain ⟨l, r, e1, e2⟩ := hf x p1
  obtain ⟨u, e3, e4⟩ := h2.at e1 e2
  obtain ⟨c1, c2⟩ := hc x p1
  exact ⟨a, _, dx, vs, u, rfl, g.w.s _ _ h1, c1, c2, e3, k G1 H1 u _ g e4 p2⟩
/-- what a class gives for the method m -/
def DispM (P : Program) (w : World) (K : Fg) (mg : Str → Option Value) (base : Heap) (m : Str) (k : Nat) (ps : List Str) (sp : Addr → Sp) (C : Addr) : Prop := ∃ f fd, Cls K C ∧ Meth K C m f ∧ FnOk P w K mg base (L2.CX P w) k f fd ps (sp C) ∧ Binds K fd ps []
def DispC (P : Program) (w : World) (K : Fg) (mg : Str → Option Value) (base : Heap) (k : Nat) (ps : List Str) (sp : Addr → Sp) (C : Addr) : Prop := ∃ f fd, StX.CallO K C f ∧ FnOk P w K mg base (L2.CX P w) k f fd ps (sp C) ∧ Binds K fd ps []
theorem e_methD {pl : Sem Bool} {Φ : α × ι → Pt β} (hd : ∀ x, ¬ m ∈ (fs x).map (·.1) ∧ DispM X.prog X.w X.K X.mg X.base m k ps (spC X.K cls fs as iβ Φ) (cls X.K x)) (ho : JE X c o ρ (rpIns cls fs) ta Φo) (hr : Room k X.A) (tk : Takes X c.wsh) (ha : JA X c (e :: es) ρ as t Φr)
    (hst : starEach (e :: es) X.env = (false, eval e X.env) :: starEach es X.env := by rfl) (hpl : (backTo pos (starEach es X.env)).any (·.1) = false := by rfl)
    (ht : eval (.Call (.Attribute o m apos) (e :: es) [] pos) X.env = (do
      let ov ← eval o X.env
      standAt apos.atName
      let (f, first) ← holding [ov] (getMethod ov m pl)
      callWith pos f first (backTo pos (starEach (e :: es) X.env)) (backToKw pos (keywordEach [] X.env))) := by rfl) :
    JE X c (.Call (.Attribute o m apos) (e :: es) [] pos) ρ iβ (tMethD (DispM X.prog X.w X.K X.mg X.base m k ps (spC X.K cls fs as iβ Φ)) m (spC X.K cls fs as iβ Φ) (fun σ => L2.WE c.wsh σ) ta t) (fun post ep => Φo (fun z => Φr (fun y => Φ (z, y) post ep) ep) ep) := by
  refine ⟨⟨fun pins s σ H Q I h => ?_⟩, fun post ep φ G H σ w E Q k hx => ?_⟩
  · refine PySem.W.methodCall_KW (pl := pl) (thn (ho.pe.run pins s σ H _ I h) fun u s1 ⟨x, H1, I1, rx, a, C, dx, vs, ex, ea, l, ⟨g, fd, c1, hm, F, hb⟩, q⟩ => ?_) ht
    subst ex
    obtain rfl : u = Value.ref a := rx
    refine getmeth_ok I1 ea c1 hm l (PySem.W.callWith_K (first := [.ref a]) (h₀ := X.base) I1.ok.mod.kin hm.kp (thn (ha.pe.run pos pins s1 σ H1 _ I1 q) fun us s2 ⟨vs, H2, I2, r, q2⟩ => ⟨I2.kIn, ?_⟩) hst hpl)
    exact run_fnS (us := .ref a :: us) (vs := .ref a :: vs) F hr hb (passAt tk σ) I2 (.cons rfl r) q2
  · refine ho.sem _ _ φ G H σ w E _ (fun G1 H1 v z g1 r1 φ1 => ?_) hx
    obtain ⟨p, dx, vs, rfl, h1, h2⟩ := id r1
    obtain ⟨d1, d2⟩ := hd z
    refine ⟨p, _, dx, vs, rfl, g1.w.s _ _ h1, no_key (by rw [h2.names]; exact d1), d2, ?_⟩
    refine ha.sem _ _ φ1 G1 H1 σ g1.w (E.up g1) _ (fun G2 H2 us y g2 r2 φ2 => ?_) (hx.up g1)
    have g12 := g1.trans g2
    exact ⟨G2, (z, y), post, ep, g12.w.to0, .cons (.val ((rpIns cls fs).mono g2.g r1)) r2, ⟨rfl, φ2⟩, fun G' H' v' m' g r p => k G' H' v' m' (g12.trans (g.lift g12.w)) r p, fun G' H' cl d e' g r p => hx G' H' cl d e' (g12.trans (g.lift g12.w)) r p⟩
theorem e_callO {Φ : α × ι → Pt β} (hd : ∀ x, DispC X.prog X.w X.K X.mg X.base k ps (spC X.K cls fs as iβ Φ) (cls X.K x)) (ho : JE X c o ρ (rpIns cls fs) ta Φo) (hr : Room k X.A) (tk : Takes X c.wsh) (ha : JA X c (e :: es) ρ as t Φr)
    (ht : eval (.Call o (e :: es) [] pos) X.env = (do callWith pos (← eval o X.env) [] (backTo pos (starEach (e :: es) X.env)) (backToKw pos (keywordEach [] X.env))) := by rfl)
    (hst : starEach (e :: es) X.env = (false, eval e X.env) :: starEach es X.env := by rfl) (hpl : (backTo pos (starEach es X.env)).any (·.1) = false := by rfl) :
    JE X c (.Call o (e :: es) [] pos) ρ iβ (tCallD (DispC X.prog X.w X.K X.mg X.base k ps (spC X.K cls fs as iβ Φ)) (spC X.K cls fs as iβ Φ) (fun σ => L2.WE c.wsh σ) ta t) (fun post ep => Φo (fun z => Φr (fun y => Φ (z, y) post ep) ep) ep) := by
  refine ⟨⟨fun pins s σ H Q I h => ?_⟩, fun post ep φ G H σ w E Q k hx => ?_⟩
  · refine Call_ (thn (ho.pe.run pins s σ H _ I h) fun u s1 ⟨x, H1, I1, rx, a, ex, q⟩ => ?_) ht
    subst ex
    obtain rfl : u = Value.ref a := rx
    refine StX.callO_with (thn (ha.pe.run pos pins s1 σ H1 _ I1 q) fun us s2 ⟨vs, H2, I2, r, C, dx, ws, h1, ⟨g, fd, c1, F, hb⟩, q2⟩ => ?_) hst hpl
    obtain ⟨ox, od, J, hpd⟩ := StX.insC_at I2 (C := C) (.inr ⟨dx, ws, h1⟩)
    refine ⟨⟨C, ox, od, J, hpd⟩, wpAny_call (PySem.W.kco_code I2.kIn J hpd c1.at_ c1.fn c1.fi ?_)⟩
    have hl : (Value.ref a :: us).length = ps.length := by
      have y := F.len _ _ _ _ q2
      rw [← y, List.length_cons, List.length_cons, r.length]
    have b2 := hb s2 (Value.ref a :: us) I2.kIn (by rw [List.append_nil]; exact hl)
    rw [List.append_nil] at b2
    refine codeAny_mono (F.run _ _ s2 H2 ⟨Value.ref a :: us, []⟩ (Value.ref a :: us) (V.ref a :: vs) Q _ hr I2.env0 b2 (.cons rfl r) q2) fun rr s' hq => ?_
    cases rr with
    | error er => exact passAt tk σ pins H2 s2 er s' I2 hq
    | ok fl =>
      cases fl with
      | ret u => exact I2.after hq
      | next => exact False.elim hq
      | brk => exact False.elim hq
      | cont => exact False.elim hq
  · refine ho.sem _ _ φ G H σ w E _ (fun G1 H1 v z g1 r1 φ1 => ?_) hx
    obtain ⟨p, dx, vs, rfl, h1, h2⟩ := id r1
    refine ⟨p, rfl, ha.sem _ _ φ1 G1 H1 σ g1.w (E.up g1) _ (fun G2 H2 us y g2 r2 φ2 => ?_) (hx.up g1)⟩
    have g12 := g1.trans g2
    refine ⟨_, dx, vs, g2.w.s _ _ (g2.g _ _ h1), hd z, ?_⟩
    exact ⟨G2, (z, y), post, ep, g12.w.to0, .cons (.val ((rpIns cls fs).mono g2.g r1)) r2, ⟨rfl, φ2⟩, fun G' H' v' m' g r p => k G' H' v' m' (g12.trans (g.lift g12.w)) r p, fun G' H' cl d e' g r p => hx G' H' cl d e' (g12.trans (g.lift g12.w)) r p⟩
/-- isinstance by the value -/
theorem isiwD {α : Type} {iα : Rp α} {t : α → Value} {u : Value} {cv : V} {b : α → Bool} (ht : ∀ (G H : Hp) (v : V) (m : α), Ex G H → iα.rp X.K G v m → TyX X.K H v (t m)) (hc : ClsV cv u) (hk : ∀ m, PySem.W.kitOne X.K (t m) u = some (b m)) : CallW X (.builtin "isinstance") (as2 iα (rpC cv)) rpB (rIsi X.K) (fun x post _ => post (b x.1)) :=
  ⟨call_isi, fun rs G H vs x post ep Q w ha φ k => by
    obtain ⟨v, v2, rfl, h1, h2⟩ := two2 ha
    obtain rfl : v2 = cv := h2
    exact ⟨v, v2, t x.1, u, b x.1, rfl, hc, ht _ _ _ _ w.s h1, hk x.1, k G H _ _ (Gr.refl w) rfl φ⟩⟩
end
end Ty

set_option Elab.async false
set_option linter.all false
set_option maxRecDepth 100000
set_option maxHeartbeats 1000000
set_option autoImplicit false
/-! Ty, part W: rules for defs with super(), __init__ of a line of classes -/
namespace Ty
open PySem PySem.Spec PyProof.Rows L2 NdefX ClX

section
variable {P : Program} {w : World} {K : Fg} {mg : Str → Option Value} {base : Heap} {N ps : List Str} {F : NF} {f cc D : Addr} {fd : FuncData} {k : Nat} {ι β : Type} {i : Rp β}
abbrev Cs (P : Program) (w : World) (K : Fg) (mg : Str → Option Value) (base : Heap) (N : List Str) (F : NF) (f : Addr) (A : Around) (outer : List Env) (s : Shared) (H : Hp) (E : XK) : Cx := ncx (L2.CX P w) P w K mg base N F f A outer s H E
theorem takes_s {A : Around} {outer : List Env} {s : Shared} {H : Hp} {E : XK} : Takes (Cs P w K mg base N F f A outer s H E) fun cls d _ H' => E cls d H' := takes_of rfl rfl rfl rfl
theorem startF_eq {vs : List V} (h : vs.length + 1 ≤ N.length) : startF N vs [none] = vs.map some ++ List.replicate (N.length - vs.length) none := by
  unfold startF
  have e : N.length - vs.length = (N.length - vs.length - 1) + 1 := by omega
  rw [e, List.replicate_succ]
  rfl
theorem nsc_len {sc : Scope} (S : NScope N ps [("__class__" : Str)] sc) : ps.length + 1 ≤ N.length := by
  have q := congrArg List.length S.pre
  rw [List.length_take, List.length_append] at q
  have : ([("__class__" : Str)]).length = 1 := rfl
  omega
/-- a def with super(), without a resource -/
theorem fnS_ok (U : SupD K P F f D cc fd) (S : NScope N ps [("__class__" : Str)] F.scope) {as : ι → List Sl} {Φ : ι → Pt β} {Φb : ι → Pt (Out Unit Empty β)} (hl : ∀ y, (as y).length = ps.length)
    (hb : ∀ (y : ι) (A : Around) (outer : List Env) (s : Shared) (H G : Hp) (E : XK), Room k (A.deeper (envF F f s.heap.objs.size)) →
      ∃ tb, JS (Cs P w K mg base N F f A outer s H E) (Cc rs0 G H E) F.body F.body (as y ++ List.replicate (N.length - ps.length) .no) (fun _ : Unit => List.replicate N.length .no) (fun z : Empty => nomatch z) i tb (Φb y))
    (hΦ : ∀ y post ep, Φ y post ep → Φb y (endP False post) ep) : FnOk P w K mg base (L2.CX P w) (k + 1) f fd ps (spOf K rs0 as i Φ) := by
  refine fnS_of U S (fun vs H Q E h => ?_) fun A outer s H vs Q E hr h => ?_
  · obtain ⟨G, y, post, ep, _, ha, _⟩ := h
    exact ha.len.trans (hl y)
  · obtain ⟨G, y, post, ep, wd, ha, φ, hq, hx⟩ := h
    obtain ⟨tb, J⟩ := hb y A outer s H G E hr
    have hvl : vs.length = ps.length := ha.len.trans (hl y)
    refine ⟨tb, J.pe, J.sem _ _ (hΦ y post ep φ) G H _ (Gr.refl wd) ?_ _ ⟨fun _ _ _ _ _ _ _ p => p.elim, fun G' H' v b g _ r p => hq G' H' v b g r p, fun _ _ _ _ _ _ _ p => p.elim, fun _ _ _ _ _ _ _ p => p.elim⟩ fun G' H' σ' cls d e g r p => hx G' H' cls d e g r p⟩
    rw [startF_eq (by rw [hvl]; exact nsc_len S), hvl]
    exact en_args (rs := rs0) (H0 := H) (H := H) ha (N.length - ps.length)

/-! ### super().m(..) -/
variable {A : Around} {outer : List Env} {s0 : Shared} {H0 : Hp} {E0 : XK} {c : Cn} {body : List Stmt} {ρ : List Sl} {α : Type} {iα : Rp α} {as : ι → List Sl} {Φr : Pt ι} {Φ : α × ι → Pt β} {f2 : Addr} {fd2 : FuncData} {ps2 : List Str} {m : Str} {e : Expr} {es : List Expr} {t : TA} {p0 p1 apos pos : Pos} {kk : Nat}
theorem e_supM {pl : Sem Bool} {x : α} (ok : α → Prop) (hi : ∀ (G : Hp) (v : V) (y : α), ok y → iα.rp K G v y → ∃ p C dx fs, v = .ref p ∧ G p = some (.ins C dx fs) ∧ SupTo K D C m f2) (hρ : ρ[0]? = some (.val iα x)) (U : SupD K P F f D cc fd) (S : NScope N ps [("__class__" : Str)] F.scope) (hps : ps[0]? = some ("self" : Str)) (hmg : mg "super" = none)
    (hs2 : F.scope.names.lookup ("super" : Str) = some .globalImplicit) (hat : (m == ("__class__" : Str)) = false) (A2 : FnA K f2) (G2 : FnOk P w K mg base (L2.CX P w) kk f2 fd2 ps2 (spOf K rs0 (aCons iα as) i Φ)) (hr : Room kk (A.deeper (envF F f s0.heap.objs.size))) (hb : Binds K fd2 ps2 [])
    (tk : Takes (Cs P w K mg base N F f A outer s0 H0 E0) c.wsh) (ha : JA (Cs P w K mg base N F f A outer s0 H0 E0) c (e :: es) ρ as t Φr)
    (hst : starEach (e :: es) (envF F f s0.heap.objs.size) = (false, eval e (envF F f s0.heap.objs.size)) :: starEach es (envF F f s0.heap.objs.size) := by rfl) (hpl : (backTo pos (starEach es (envF F f s0.heap.objs.size))).any (·.1) = false := by rfl)
    (ht : eval (.Call (.Attribute (.Call (.Name "super" p0) [] [] p1) m apos) (e :: es) [] pos) (envF F f s0.heap.objs.size) = (do
      let ov ← attributeBase (.Call (.Name "super" p0) [] [] p1) m (envF F f s0.heap.objs.size) (eval (.Call (.Name "super" p0) [] [] p1) (envF F f s0.heap.objs.size))
      standAt apos.atName
      let (g, first) ← holding [ov] (getMethod ov m pl)
      callWith pos g first (backTo pos (starEach (e :: es) (envF F f s0.heap.objs.size))) []) := by rfl) :
    JES (Cs P w K mg base N F f A outer s0 H0 E0) c body (.Call (.Attribute (.Call (.Name "super" p0) [] [] p1) m apos) (e :: es) [] pos) ρ i (tSupM K D f2 m (spOf K rs0 (aCons iα as) i Φ) (fun σ => L2.WE c.wsh σ) t) (fun post ep => ok x ∧ Φr (fun y => Φ (x, y) post ep) ep) := by
  have hN0 : N[0]? = some ("self" : Str) := by
    have h1 : (ps ++ [("__class__" : Str)])[0]? = some ("self" : Str) := by
      rw [List.getElem?_append_left (List.getElem?_eq_some_iff.mp hps).1]
      exact hps
    rw [← S.pre, List.getElem?_take_of_lt (by show 0 < ps.length + 1; omega)] at h1
    exact h1
  refine ⟨eAt_sup U hmg S.kind hN0 (S.par _ (List.mem_of_getElem? hps)) hs2 (S.frk _ (by simp)) hat A2.ty A2.fn G2 hr hb (fun σ => passAt tk σ) ha.pe hst hpl ht, fun post ep φ G H σ wd E Q k hx => ?_⟩
  obtain ⟨φ0, φ⟩ := φ
  obtain ⟨v, hσ, r⟩ := E.val hρ
  obtain ⟨p, C, dx, fs, rfl, h1, T⟩ := hi G v x φ0 r
  refine ⟨p, C, dx, fs, hσ, wd.s _ _ h1, T, ha.sem _ _ φ G H σ wd E _ (fun G1 H1 vs y g1 r1 φ1 => ?_) hx⟩
  exact ⟨G1, (x, y), post, ep, g1.w.to0, .cons (.val (iα.mono g1.g r)) r1, φ1, fun G' H' v' m' g r p => k G' H' v' m' (g1.trans (g.lift g1.w)) r p, fun G' H' cl d e' g r p => hx G' H' cl d e' (g1.trans (g.lift g1.w)) r p⟩
end

/-! ### __init__ of a line of classes -/
section
variable {S ι δ : Type}
structure JSt (K : Fg) (okC : Addr → Prop) (as : ι → List Sl) (Φ : ι → Pt S) (fs : S → List (Str × Fp)) (vs : List V) (H : Hp) (Q : VK) (E : XK) (G0 H0 G : Hp) (x dx C : Addr) (us : List V) (y : ι) (post : S → Prop) (ep : Exn → Prop) : Prop where
  ev : vs = .ref x :: us
  ok : okC C
  g : Gr rs0 G0 H0 G H
  hx : H x = some (.ins C dx [])
  hd : H dx = some (.own x)
  x0 : H0 x = none
  d0 : H0 dx = none
  xg : G x = none
  dg : G dx = none
  a : ArgsOk K G us (as y)
  φ : Φ y post ep
  q : ∀ G' H' s, Gr rs0 G0 H0 G' H' → Ex G G' → SlOk K rs0 H0 G' H' (some (some (.ref x))) (.oi x C (fs s)) → post s → Q .non H'
  e : ∀ G' H' cls d e, Gr rs0 G0 H0 G' H' → XRep K G' H' cls d e → ep e → E cls d H'
/-- what such an __init__ promises: the fields of the new instance, which may change yet -/
def spJ (K : Fg) (okC : Addr → Prop) (as : ι → List Sl) (fs : S → List (Str × Fp)) (Φ : ι → Pt S) : Sp := fun vs H Q E => ∃ G0 H0 G x dx C us y post ep, JSt K okC as Φ fs vs H Q E G0 H0 G x dx C us y post ep
variable {K : Fg} {okC : Addr → Prop} {as : ι → List Sl} {fs : S → List (Str × Fp)} {Φ : ι → Pt S}
theorem en_oi {H0 G H : Hp} {x dx C : Addr} {us : List V} {n : Nat} {as' : List Sl} (h1 : H x = some (.ins C dx [])) (h2 : H dx = some (.own x)) (x0 : H0 x = none) (d0 : H0 dx = none) (xg : G x = none) (dg : G dx = none) (ha : ArgsOk K G us as') :
    En K rs0 H0 G H ((V.ref x :: us).map some ++ List.replicate n none) (.oi x C [] :: as' ++ List.replicate n .no) := by
  have e := en_args (rs := rs0) (H0 := H0) (H := H) ha n
  have noOwn : ∀ (j : Nat) (z : Sl), (as' ++ List.replicate n Sl.no)[j]? = some z → z.own = true → False := fun j z ez oz => by
    have all : ∀ (vs : List V) (bs : List Sl), ArgsOk K G vs bs → ∀ b, b ∈ bs → b.own = false := by
      intro vs bs h
      induction h with
      | nil => exact fun _ h => nomatch h
      | cons h _ ih =>
        intro b hm
        rcases List.mem_cons.mp hm with rfl | hm
        · cases h <;> rfl
        · exact ih b hm
    rcases List.mem_append.mp (List.mem_of_getElem? ez) with q | q
    · rw [all us _ ha z q] at oz
      cases oz
    · rw [List.eq_of_mem_replicate q] at oz
      cases oz
  refine ⟨by simpa using e.len, fun j z ez => ?_, fun j r z1 z2 l ne e1 e2 o1 o2 _ _ => ?_⟩
  · cases j with
    | zero =>
      have ez : some (Sl.oi x C []) = some z := ez
      cases ez
      exact ⟨dx, [], rfl, h1, .nil, x0, xg, fun z => z.elim, h2, d0, dg, fun z => z.elim⟩
    | succ j => exact e.ok j z ez
  · cases j with
    | succ j => exact noOwn j z1 e1 o1
    | zero => cases r with
      | zero => exact ne rfl
      | succ r => exact noOwn r z2 e2 o2
/-- the new instance is known for good -/
theorem FnOk.mkJ {P : Program} {w : World} {mg : Str → Option Value} {base : Heap} {k : Nat} {f C : Addr} {fd : FuncData} {ps : List Str} {iδ : Rp δ} {mk : S → δ} (F : FnOk P w K mg base (L2.CX P w) k f fd ps (spJ K okC as fs Φ)) (hC : okC C)
    (hrep : ∀ (s : S) (G : Hp) (q dx : Addr) (vs : List (Str × V)), G q = some (.ins C dx vs) → FlAll K G vs (fs s) → iδ.rp K G (.ref q) (mk s)) : FnOk P w K mg base (L2.CX P w) k f fd ps (spI K C as iδ fun y post ep => Φ y (fun s => post (mk s)) ep) := by
  refine F.imp fun vs H Q E h => ?_
  obtain ⟨G, Hb, q, dx, us, y, post, ep, rfl, rfl, h1, h2, h3, wd, ha, φ, hq, hx⟩ := h
  have fr : ∀ a, Hb a = none → G a = none := fun a e => by
    cases e2 : G a with
    | none => rfl
    | some u =>
      have z := wd.s a u e2
      rw [e] at z
      cases z
  have g1 := gr_newH (o := .own q) wd h2
  have g2 := gr_newH (o := .ins C dx []) g1.w (show upd Hb dx (.own q) q = none by rw [upd_ne fun z => h3 z.symm]; exact h1)
  refine ⟨G, Hb, G, q, dx, C, us, y, fun s => post (mk s), ep, rfl, hC, g1.trans g2, upd_same, by rw [upd_ne h3]; exact upd_same, h1, h2, fr q h1, fr dx h2, ha, φ, fun G' H' s g x e1 p => ?_, hx⟩
  obtain ⟨dx', vs', z1, z2, z3, z4, z5, z6, _⟩ := e1
  cases z1
  exact hq _ H' (mk s) (gr_frz g z4 z5 z6 z2) (hrep s _ q dx' vs' upd_same (z3.mono (Ex.new z5))) p
/-- a plain __init__ -/
theorem fn_okJ {P : Program} {w : World} {mg : Str → Option Value} {base : Heap} {x qual : Str} {params : Arguments} {body : List Stmt} {scope : Scope} {f : Addr} {fd : FuncData} {N ps : List Str} {k : Nat} {dvs : List V} {kws : List (Str × V)} {Φb : ι → Pt (Out S Empty Unit)} {tail : List Sl} (F : FunD K x qual params body scope dvs kws f fd) (Sc : FnScope N ps scope)
    (hps : ∀ y, (as y).length + 1 = ps.length)
    (hb : ∀ (y : ι) (q C : Addr) (cdv : Value) (A : Around) (outer : List Env) (s : Shared) (H Hb G : Hp) (E : XK), okC C → Room k (A.deeper (envOfC qual scope s.heap.objs.size f cdv)) →
      ∃ tb, JB (Cf P w K mg base N qual scope f cdv A outer s H E) (Cc rs0 G Hb E) body (.oi q C [] :: as y ++ List.replicate (N.length - ps.length) .no) (fun s : S => .oi q C (fs s) :: tail) (fun z : Empty => nomatch z) rpN tb (Φb y))
    (hΦ : ∀ y post ep, Φ y post ep → Φb y (endI id post) ep) : FnOk P w K mg base (L2.CX P w) (k + 1) f fd ps (spJ K okC as fs Φ) := by
  refine F.ok Sc (fun vs H Q E h => ?_) fun cdv A outer s H vs Q E hr h => ?_
  · obtain ⟨G0, H0, G, q, dx, C, us, y, post, ep, J⟩ := h
    rw [J.ev, List.length_cons, J.a.len]
    exact hps y
  · obtain ⟨G0, H0, G, q, dx, C, us, y, post, ep, J⟩ := h
    obtain ⟨tb, B⟩ := hb y q C cdv A outer s H H0 G0 E J.ok hr
    have hl : (V.ref q :: us).length = ps.length := by rw [List.length_cons, J.a.len]; exact hps y
    refine ⟨tb, B.pe, B.sem _ _ (hΦ y post ep J.φ) G H _ J.g ?_ _ ⟨fun G' H' σ' s' g xx E' p => ?_, fun _ _ _ _ _ _ _ p => p.elim, fun _ _ _ _ _ _ _ p => p.elim, fun _ _ _ _ _ _ _ p => p.elim⟩ fun G' H' σ' cls d e g r p => J.e G' H' cls d e g r p⟩
    · have st : L2.start N vs = (V.ref q :: us).map some ++ List.replicate (N.length - ps.length) none := by
        unfold L2.start
        rw [J.ev, hl]
      rw [st]
      exact en_oi J.hx J.hd J.x0 J.d0 J.xg J.dg J.a
    · have z := E'.ok 0 _ rfl
      obtain ⟨dx', vs', k1, k2⟩ := z
      exact J.q G' H' s' g xx ⟨dx', vs', rfl, k2⟩ p
/-- .. with super() -/
theorem fnS_okJ {P : Program} {w : World} {mg : Str → Option Value} {base : Heap} {F : NF} {f cc D : Addr} {fd : FuncData} {N ps : List Str} {k : Nat} {Φb : ι → Pt (Out S Empty Unit)} {tail : List Sl} (U : SupD K P F f D cc fd) (Sc : NScope N ps [("__class__" : Str)] F.scope) (hps : ∀ y, (as y).length + 1 = ps.length)
    (hb : ∀ (y : ι) (q C : Addr) (A : Around) (outer : List Env) (s : Shared) (H Hb G : Hp) (E : XK), okC C → Room k (A.deeper (envF F f s.heap.objs.size)) →
      ∃ tb, JS (Cs P w K mg base N F f A outer s H E) (Cc rs0 G Hb E) F.body F.body (.oi q C [] :: as y ++ List.replicate (N.length - ps.length) .no) (fun s : S => .oi q C (fs s) :: tail) (fun z : Empty => nomatch z) rpN tb (Φb y))
    (hΦ : ∀ y post ep, Φ y post ep → Φb y (endI id post) ep) : FnOk P w K mg base (L2.CX P w) (k + 1) f fd ps (spJ K okC as fs Φ) := by
  refine fnS_of U Sc (fun vs H Q E h => ?_) fun A outer s H vs Q E hr h => ?_
  · obtain ⟨G0, H0, G, q, dx, C, us, y, post, ep, J⟩ := h
    rw [J.ev, List.length_cons, J.a.len]
    exact hps y
  · obtain ⟨G0, H0, G, q, dx, C, us, y, post, ep, J⟩ := h
    obtain ⟨tb, B⟩ := hb y q C A outer s H H0 G0 E J.ok hr
    have hl : (V.ref q :: us).length = ps.length := by rw [List.length_cons, J.a.len]; exact hps y
    refine ⟨tb, B.pe, B.sem _ _ (hΦ y post ep J.φ) G H _ J.g ?_ _ ⟨fun G' H' σ' s' g xx E' p => ?_, fun _ _ _ _ _ _ _ p => p.elim, fun _ _ _ _ _ _ _ p => p.elim, fun _ _ _ _ _ _ _ p => p.elim⟩ fun G' H' σ' cls d e g r p => J.e G' H' cls d e g r p⟩
    · rw [J.ev, startF_eq (by rw [hl]; exact nsc_len Sc), hl]
      exact en_oi J.hx J.hd J.x0 J.d0 J.xg J.dg J.a
    · obtain ⟨dx', vs', k1, k2⟩ := E'.ok 0 _ rfl
      exact J.q G' H' s' g xx ⟨dx', vs', rfl, k2⟩ p
/-- super().__init__(e, ..) as the first statement: the fields that it gives -/
theorem js_supI {P : Program} {w : World} {mg : Str → Option Value} {base : Heap} {F : NF} {f cc D f2 q C : Addr} {fd fd2 : FuncData} {N ps ps2 : List Str} {kk : Nat} {A : Around} {outer : List Env} {s0 : Shared} {H0 : Hp} {E0 : XK} {c : Cn} {body rest : List Stmt} {ρ : List Sl} {S' L β : Type} {out : S' → List Sl} {lp : L → List Sl} {i : Rp β} {tr : TS} {Φr : S → Pt (Out S' L β)} {Φa : Pt ι} {e : Expr} {es : List Expr} {t : TA} {p0 p1 apos pos pos' : Pos} {pl : Sem Bool} [Nonempty S]
    (hrs : c.rs = rs0) (hC : okC C) (T : SupTo K D C "__init__" f2) (hρ : ρ[0]? = some (.oi q C [])) (hown : ∀ j y, ρ[j + 1]? = some y → y.own = false) (U : SupD K P F f D cc fd) (Sc : NScope N ps [("__class__" : Str)] F.scope) (hps : ps[0]? = some ("self" : Str)) (hmg : mg "super" = none)
    (hs2 : F.scope.names.lookup ("super" : Str) = some .globalImplicit) (A2 : FnA K f2) (G2 : FnOk P w K mg base (L2.CX P w) kk f2 fd2 ps2 (spJ K okC as fs Φ)) (hr : Room kk (A.deeper (envF F f s0.heap.objs.size))) (hb : Binds K fd2 ps2 []) (tk : Takes (Cs P w K mg base N F f A outer s0 H0 E0) c.wsh)
    (ha : JA (Cs P w K mg base N F f A outer s0 H0 E0) c (e :: es) ρ as t Φa) (hrest : ∀ s, JB (Cs P w K mg base N F f A outer s0 H0 E0) c rest (ρ.set 0 (.oi q C (fs s))) out lp i tr (Φr s))
    (hst : starEach (e :: es) (envF F f s0.heap.objs.size) = (false, eval e (envF F f s0.heap.objs.size)) :: starEach es (envF F f s0.heap.objs.size) := by rfl) (hpl : (backTo pos (starEach es (envF F f s0.heap.objs.size))).any (·.1) = false := by rfl)
    (ht : eval (.Call (.Attribute (.Call (.Name "super" p0) [] [] p1) "__init__" apos) (e :: es) [] pos) (envF F f s0.heap.objs.size) = (do
      let ov ← attributeBase (.Call (.Name "super" p0) [] [] p1) "__init__" (envF F f s0.heap.objs.size) (eval (.Call (.Name "super" p0) [] [] p1) (envF F f s0.heap.objs.size))
      standAt apos.atName
      let (g, first) ← holding [ov] (getMethod ov "__init__" pl)
      callWith pos g first (backTo pos (starEach (e :: es) (envF F f s0.heap.objs.size))) []) := by rfl)
    (hsw : swapsWith (.Call (.Attribute (.Call (.Name "super" p0) [] [] p1) "__init__" apos) (e :: es) [] pos) none pos'.line (envF F f s0.heap.objs.size) = pure false := by rfl) :
    JS (Cs P w K mg base N F f A outer s0 H0 E0) c body (.Expr (.Call (.Attribute (.Call (.Name "super" p0) [] [] p1) "__init__" apos) (e :: es) [] pos) pos' :: rest) ρ out lp i (tSeq (tDrop (tSupM K D f2 "__init__" (spJ K okC as fs Φ) (fun σ => L2.WE c.wsh σ) t)) tr)
      (fun post ep => Φa (fun y => Φ y (fun s => Φr s post ep) ep) ep) := by
  have hN0 : N[0]? = some ("self" : Str) := by
    have h1 : (ps ++ [("__class__" : Str)])[0]? = some ("self" : Str) := by
      rw [List.getElem?_append_left (List.getElem?_eq_some_iff.mp hps).1]
      exact hps
    rw [← Sc.pre, List.getElem?_take_of_lt (by show 0 < ps.length + 1; omega)] at h1
    exact h1
  have he := eAt_sup (body := body) U hmg Sc.kind hN0 (Sc.par _ (List.mem_of_getElem? hps)) hs2 (Sc.frk _ (by simp)) (by decide) A2.ty A2.fn G2 hr hb (fun σ => passAt tk σ) ha.pe hst hpl ht
  refine ⟨ssAt_cons (sAt_expr he hsw) (SsAt.of (hrest (Classical.choice inferInstance)).pe), fun post ep φ G H σ g E DD k hx => ?_⟩
  obtain ⟨dx, vs, h1, h2, h3, h4⟩ := E.ok 0 _ hρ
  cases h3
  refine ⟨q, C, dx, [], h1, h2, T, ha.sem _ _ φ G H σ g.w E _ (fun G1 H1 us y g1 r1 φ1 => ?_) (hx.at g)⟩
  obtain ⟨dx, vs, k1, k2, k3, k4, k5, k6, k7, k8, k9, k10⟩ := (E.up g1).ok 0 _ hρ
  cases k3
  have gg := g.trans g1
  rw [hrs] at gg
  refine ⟨c.G0, c.H0, G1, q, dx, C, us, y, fun s => Φr s post ep, ep, rfl, hC, gg, k2, k7, k4, k8, k5, k9, r1, φ1, fun G' H' s g2 x2 so p => ?_, fun G' H' cls d e g2 r p => hx G' H' σ cls d e (hrs ▸ g2) r p⟩
  have g2' : Gr c.rs c.G0 c.H0 G' H' := hrs ▸ g2
  have hσ0 : σ[0]? = some (some (.ref q)) := k1
  refine (hrest s).sem _ _ p G' H' σ g2' ⟨by rw [List.length_set]; exact E.len, fun j y e => ?_, fun j r y1 y2 l ne e1 e2 o1 o2 _ _ => ?_⟩ DD (k.up (g1.g.trans x2)) hx
  · rcases get_set e with ⟨rfl, rfl, z⟩ | ⟨z, e⟩
    · rw [hσ0, hrs]
      exact so
    · have hj : ∃ j', j = j' + 1 := ⟨j - 1, by omega⟩
      obtain ⟨j, rfl⟩ := hj
      have no := hown j y e
      have old := E.ok _ _ e
      cases y with
      | no => trivial
      | val iv m =>
        obtain ⟨v, e1, e2⟩ := old
        exact ⟨v, e1, iv.mono (g1.g.trans x2) e2⟩
      | rf a => exact old
      | ml iv xs => cases no
      | md iv xs => cases no
      | oi l C fs => cases no
  · have ow : ∀ (j : Nat) (y : Sl), (ρ.set 0 (.oi q C (fs s)))[j]? = some y → y.own = true → j = 0 := fun j y e o => by
      rcases get_set e with ⟨z, _, _⟩ | ⟨z, e⟩
      · exact z.symm
      · obtain ⟨j, rfl⟩ : ∃ j', j = j' + 1 := ⟨j - 1, by omega⟩
        rw [hown j y e] at o
        cases o
    exact ne ((ow j y1 e1 o1).trans (ow r y2 e2 o2).symm)
end
end Ty

set_option Elab.async false
set_option linter.all false
set_option maxRecDepth 100000
set_option maxHeartbeats 1000000
set_option autoImplicit false
/-! Ty, part X: within an except suite -/
namespace Ty
open PySem PySem.Spec PyProof.Rows L2 NdefX ClX L2H

/-- data that tell their value -/
class UnD (α : Type) (i : Rp α) [d : Dat α i] : Prop where
  back : ∀ {K : Fg} {G : Hp} {v : V} {m : α}, Dp K G v (d.enc m) → i.rp K G v m
instance : UnD Int rpI := ⟨fun {K G v m} h => by
  cases h
  exact rfl⟩
instance : UnD Str rpS := ⟨fun {K G v m} h => by
  cases h
  exact rfl⟩
section
variable {X : Cx} {c : Cn} {ρ : List Sl} {a C fI : Addr} {oe : Obj} {cls : Value} {d : Option Addr} {pn : List (Addr × Obj)} {x f n : Str} {px pos : Pos} {α : Type} {iα : Rp α} {e : Exn}
abbrev Xs (X : Cx) (a : Addr) (oe : Obj) (pn : List (Addr × Obj)) : Cx := X.suite a ((a, oe) :: pn)
/-- raised.f -/
theorem e_xf [dα : Dat α iα] [ud : UnD α iα] (j : Nat) (T : ErrC X.K C fI) (hC : C = He.ga X.K x) (hno : PySem.W.findIn X.K (.ref C) f = some none) (hz : Zc cls d oe) (hf : ∃ vs, oe.data = .fields vs) (hρ : ρ[j]? = some (.val (rpEx a cls d) e)) (hN : X.N[j]? = some n := by rfl) (hv : Vis X.env.scope n := by first | exact Or.inl rfl | exact Or.inr (Or.inl rfl) | exact Or.inr (Or.inr rfl))
    (hd : (n == ("__debug__" : Str)) = false := by decide) (hcd : (n == ("__classdict__" : Str)) = false := by decide) (hb : attributeBase (.Name n px) f X.env (eval (.Name n px) X.env) = eval (.Name n px) X.env := by rfl) :
    JE (Xs X a oe pn) c (.Attribute (.Name n px) f pos) ρ iα (tXf a cls d C f (tVar j)) (fun post ep => e.cls = x ∧ ∃ m, e.fs.lookup f = some (dα.enc m) ∧ post m) := by
  refine ⟨pe_xf T.x hno hz hf (pe_var (X := Xs X a oe pn) hN hv hd hcd) hb, fun post ep φ G H σ w E Q k hx => ?_⟩
  obtain ⟨p1, m, p2, p3⟩ := φ
  obtain ⟨v, hσ, rfl, r1, dd, fs, r2, r3, r4⟩ := E.val hρ
  obtain ⟨u, q1, q2⟩ := r4 f _ p2
  exact ⟨.ref a, hσ, rfl, by rw [r1, p1, hC], dd, fs, u, r2, w.s _ _ r3, q1, k G H u m (Gr.refl w) (ud.back q2) p3⟩
/-- isinstance(raised, c) -/
def rIsX (K : Fg) (C a : Addr) (cls : Value) (d : Option Addr) : List V → Hp → VK → Prop := fun xs H Q => cls = .ref C ∧ ∃ (dd : Addr) (fs : List (Str × V)) (cv : V) (u : Value) (b : Bool), d = some dd ∧ H dd = some (.xd fs) ∧ xs = [.ref a, cv] ∧ (∀ z, RelV cv z → z = u) ∧ PySem.W.kitOne K (.ref C) u = some b ∧ Q (.bl b) H
theorem call_isX (T : ErrC X.K C fI) (hz : Zc cls d oe) (hf : ∃ vs, oe.data = .fields vs) : CallR (Xs X a oe pn) (.builtin "isinstance") (rIsX X.K C a cls d) := by
  intro pins s σ H xs us Q I r h
  obtain ⟨rfl, dd, fs, cv, u, b, rfl, hd, rfl, hcv, hk, q⟩ := h
  cases r with
  | cons rx rr =>
    cases rr with
    | cons rt rr =>
      cases rr
      cases rx
      obtain rfl := hcv _ rt
      obtain ⟨hget, _⟩ := I.pin (a, oe) (List.mem_append.mpr (.inl List.mem_cons_self))
      obtain ⟨vs, hv⟩ := hf
      obtain ⟨mA, hns, _⟩ : ObjOk X.prog X.w H s.heap dd (.xd fs) := I.hok dd _ hd
      obtain ⟨od, ho, _⟩ := lookIn_ns hns
      have J : PySem.W.InstAt s.heap a oe C (some od) := ⟨hget, hz.1, by unfold PySem.W.notCls; rw [hv] <;> rfl, by rw [hz.2]; exact ho⟩
      exact PySem.W.kia_one (PySem.W.kitx_exc T.cl T.i.hg T.i.hk T.i.hs T.i.ha T.i.hn T.i.ht T.i.hm) I.kIn J hk (fun z => nomatch z) fun tk => ⟨.bl b, H, I.kept (t' := tk) fun _ _ z => z, rfl, q⟩
theorem isxw {cv : V} {u : Value} {b : Bool} (T : ErrC X.K C fI) (hC : C = He.ga X.K x) (hz : Zc cls d oe) (hf : ∃ vs, oe.data = .fields vs) (hcv : ∀ z, RelV cv z → z = u) (hk : PySem.W.kitOne X.K (.ref C) u = some b) :
    CallW (Xs X a oe pn) (.builtin "isinstance") (as2 (rpEx a cls d) (rpC cv)) rpB (rIsX X.K C a cls d) (fun y post _ => y.1.cls = x ∧ post b) :=
  ⟨call_isX T hz hf, fun rs G H vs y post ep Q w ha φ k => by
    obtain ⟨v, v2, rfl, ⟨rfl, r1, dd, fs, r2, r3, _⟩, h2⟩ := two2 ha
    obtain rfl : v2 = cv := h2
    exact ⟨by rw [r1, φ.1, hC], dd, fs, v2, u, b, r2, w.s _ _ r3, rfl, hcv, hk, k G H _ _ (Gr.refl w) rfl φ.2⟩⟩
end

/-! ### a def that may be called there: no loop, no raise -/
structure FnP (P : Program) (w : World) (K : Fg) (mg : Str → Option Value) (base : Heap) (k : Nat) (f : Addr) (fd : FuncData) (ps : List Str) (sp : Sp) : Prop where
  len : ∀ vs H Q E, sp vs H Q E → vs.length = ps.length
  run : ∀ (A : Around) (outer : List Env) (s : Shared) (H : Hp) (args : Args) (us : List Value) (vs : List V) (Q : VK) (E : XK) (p : Addr × Obj), RoomH k A → PinOk outer H s p → Env0 P w K mg base A outer s H → BindsTo s fd args (ps.zip us) → Vals vs us → sp vs H Q E →
    codeAny (model P w) A (.call (.ref f) args) (CR (L2.CX P w) outer P w H s Q E) s
section
variable {P : Program} {w : World} {K : Fg} {mg : Str → Option Value} {base : Heap} {x qual : Str} {params : Arguments} {body : List Stmt} {scope : Scope} {f : Addr} {fd : FuncData} {N ps : List Str} {k : Nat} {ι β : Type} {i : Rp β} {dvs : List V} {kws : List (Str × V)}
abbrev Cp (P : Program) (w : World) (K : Fg) (mg : Str → Option Value) (base : Heap) (N : List Str) (qual : Str) (scope : Scope) (f : Addr) (cdv : Value) (A : Around) (outer : List Env) (s : Shared) (H : Hp) (E : XK) (p : Addr × Obj) : Cx := cxH (L2.CX P w) P w K mg base N qual scope f cdv A outer s H E p
theorem fnP_ok (F : FunD K x qual params body scope dvs kws f fd) (S : FnScope N ps scope) {as : ι → List Sl} {Φ : ι → Pt β} {Φb : ι → Pt (Out Unit Empty β)} (hl : ∀ y, (as y).length = ps.length)
    (hb : ∀ (y : ι) (cdv : Value) (A : Around) (outer : List Env) (s : Shared) (H G : Hp) (E : XK) (p : Addr × Obj), RoomH k (A.deeper (envOfC qual scope s.heap.objs.size f cdv)) →
      ∃ tb, JB (Cp P w K mg base N qual scope f cdv A outer s H E p) (Cc rs0 G H E) body (as y ++ List.replicate (N.length - ps.length) .no) (fun _ : Unit => List.replicate N.length .no) (fun z : Empty => nomatch z) i tb (Φb y))
    (hΦ : ∀ y post ep, Φ y post ep → Φb y (endP False post) ep) : FnP P w K mg base (k + 1) f fd ps (spOf K rs0 as i Φ) := by
  obtain ⟨oc, od, dV, kV, doc, pm, an, cdv, ct, osl, rfl, lk, hcd, _, _⟩ := F.ex
  have len : ∀ vs H Q E, spOf K rs0 as i Φ vs H Q E → vs.length = ps.length := fun vs H Q E ⟨G, y, post, ep, _, ha, _⟩ => ha.len.trans (hl y)
  refine ⟨len, fun A outer s H args us vs Q E p hr hpin e0 hbd r hsp => ?_⟩
  have hvl := len _ _ _ _ hsp
  obtain ⟨G, y, post, ep, wd, ha, φ, hq, hx⟩ := hsp
  have KX : K.In s.heap := e0.mod.kin.keeps fun b o e => (e0.bs b o e).1
  have hk : ∀ z ∈ ps.zip us, scope.names.lookup z.1 = some .local ∨ (scope.names.lookup z.1 = some .cell ∧ ((cellsFrom (s.heap.objs.size + 1) scope.names []).lookup z.1).isSome = true) := fun z hz =>
    (S.par z.1 (List.of_mem_zip hz).1).imp id fun q => ⟨q, PySem.W.cellsFrom_some _ _ _ (.inl q)⟩
  refine codeAny_call_function hr.depth (KX _ _ lk) rfl S.co S.gen rfl (PySem.W.codeRec_of KX hcd) (hbd _ _ _ _ (wpAny_newFunctionEnv_cells S.kind hk fun env he s1 xx => ?_))
  subst he
  refine ⟨(e0.mod.nolimit.keeps fun b o e => (e0.bs b o e).1).keeps xx.toInCall.keep, codeAny_func ?_⟩
  obtain ⟨tb, J⟩ := hb y cdv A outer s H G E p (hr.deeper _)
  have I : Inv (Cp P w K mg base N qual scope f cdv A outer s H E p) [] (L2.start N vs) H s1 := inv_startH S hpin e0 hvl r xx
  have en : En K rs0 H G H (L2.start N vs) (as y ++ List.replicate (N.length - ps.length) .no) := by
    have z := en_args (rs := rs0) (H0 := H) (H := H) ha (N.length - ps.length)
    unfold L2.start
    rwa [show N.length - vs.length = N.length - ps.length by rw [hvl]]
  have run := J.sem _ _ (hΦ y post ep φ) G H _ (Gr.refl wd) en { nx := fun _ _ => False, rt := Q } ⟨fun _ _ _ _ _ _ _ p => p.elim, fun G' H' v b g _ r p => hq G' H' v b g r p, fun _ _ _ _ _ _ _ p => p.elim, fun _ _ _ _ _ _ _ p => p.elim⟩ fun G' H' σ' cls d e g r p => hx G' H' cls d e g r p
  refine wpAny_mono (J.pe.run [] s1 _ H _ I run) (fun fl s' hs => ?_) fun e s' hs => hs
  cases fl with
  | ret u =>
    obtain ⟨v, σ', H', J', rv, q⟩ := hs
    exact ⟨v, H', J'.os, J'.bare, J'.base, J'.hok, rv, q⟩
  | next => obtain ⟨_, _, _, q⟩ := hs; exact False.elim q
  | brk => obtain ⟨_, _, _, q⟩ := hs; exact False.elim q
  | cont => obtain ⟨_, _, _, q⟩ := hs; exact False.elim q
end
section
variable {X : Cx} {c : Cn} {ρ : List Sl} {a : Addr} {oe : Obj} {pn : List (Addr × Obj)} {β ι : Type} {i : Rp β} {as : ι → List Sl} {Φr : Pt ι} {Φ : ι → Pt β} {k : Nat} {f : Addr} {fd : FuncData} {ps : List Str} {x : Str} {p pos : Pos} {e : Expr} {es : List Expr} {t : TA}
theorem e_callP (F : FnP X.prog X.w X.K X.mg X.base k f fd ps (spOf X.K rs0 as i Φ)) (hr : RoomH k X.A) (hm : X.mg x = some (.ref f)) (hk : PySem.W.keepIn X.K (.ref f) = true) (hb : Binds X.K fd ps []) (hc : c.wsh = fun _ _ _ _ => False)
    (ha : JA (Xs X a oe pn) c (e :: es) ρ as t Φr) (hg : Gl X x := by rfl) (hdb : (x == ("__debug__" : Str)) = false := by decide) (he : starEach (e :: es) X.env = (false, eval e X.env) :: starEach es X.env := by rfl) (hpl : (backTo pos (starEach es X.env)).any (·.1) = false := by rfl) :
    JE (Xs X a oe pn) c (.Call (.Name x p) (e :: es) [] pos) ρ i (tCallS (spOf X.K rs0 as i Φ) (fun _ _ _ _ => False) t) (fun post ep => Φr (fun y => Φ y post (fun _ => False)) ep) := by
  refine ⟨⟨fun pins s σ H Q I h => ?_⟩, fun post ep φ G H σ w E Q kk hx => ha.sem _ _ φ G H σ w E _ (fun G1 H1 vs y g1 r1 φ1 => ?_) hx⟩
  · refine wpAny_Call_Name_kw (ld_glob (X := Xs X a oe pn) I hg hm ?_ hdb)
    refine PySem.W.callWith_K (h₀ := X.base) I.ok.mod.kin hk (thn (ha.pe.run pos pins s σ H _ I h) fun us s1 ⟨vs, H1, I1, r, q⟩ => ⟨I1.kIn, ?_⟩) he hpl
    have hl : us.length = ps.length := r.length.symm.trans (F.len _ _ _ _ q)
    have b := hb s1 us I1.kIn (by rw [List.append_nil]; exact hl)
    rw [List.append_nil] at b
    have P1 := I1.pin (a, oe) (List.mem_append_left _ List.mem_cons_self)
    have hpin : PinOk X.stack H1 s1 (a, oe) := ⟨P1.1, P1.2.1, fun hm => (List.mem_cons.mp (I1.stkSub a hm)).elim P1.2.2.1 P1.2.2.2.1, P1.2.2.2.2⟩
    refine wpAny_call (codeAny_mono (F.run (X.A.mark (some (.ref a))) X.stack s1 H1 ⟨us, []⟩ us vs Q _ (a, oe) ⟨hr.dp, hr.un⟩ hpin I1.env0 b r q) fun rr s' hq => ?_)
    cases rr with
    | error er =>
      obtain ⟨_, _, _, _, _, _, _, _, _, _, _, _, z⟩ := hq
      exact z.elim
    | ok fl =>
      cases fl with
      | ret u => exact I1.after hq
      | next => exact False.elim hq
      | brk => exact False.elim hq
      | cont => exact False.elim hq
  · exact ⟨G1, y, post, fun _ => False, g1.w.to0, r1, φ1, fun G' H' v m g r p => kk G' H' v m (g1.trans (g.lift g1.w)) r p, fun _ _ _ _ _ _ _ z => z.elim⟩
end
end Ty

set_option Elab.async false
set_option linter.all false
set_option maxRecDepth 100000
set_option maxHeartbeats 1000000
set_option autoImplicit false
/-! Ty, part Y: tuples of four, own lists: copied, stored, lent -/
namespace Ty
open PySem PySem.Spec PyProof.Rows L2

structure X4 (α β γ δ : Type) where
  x0 : α
  x1 : β
  x2 : γ
  x3 : δ
instance {α β γ δ : Type} [Nonempty α] [Nonempty β] [Nonempty γ] [Nonempty δ] : Nonempty (X4 α β γ δ) := ⟨⟨Classical.choice inferInstance, Classical.choice inferInstance, Classical.choice inferInstance, Classical.choice inferInstance⟩⟩
instance {α : Type} : Nonempty (Tu α) := ⟨⟨[]⟩⟩
abbrev rpX4 {α β γ δ : Type} {i0 : Rp α} {i1 : Rp β} {i2 : Rp γ} {i3 : Rp δ} : Rp (X4 α β γ δ) := ⟨fun K G v m => ∃ a y0 y1 y2 y3, v = .ref a ∧ SqT K G a [y0, y1, y2, y3] ∧ i0.rp K G y0 m.x0 ∧ i1.rp K G y1 m.x1 ∧ i2.rp K G y2 m.x2 ∧ i3.rp K G y3 m.x3, fun x h => by
  obtain ⟨a, y0, y1, y2, y3, h1, h2, h3, h4, h5, h6⟩ := h
  exact ⟨a, y0, y1, y2, y3, h1, x.st h2, i0.mono x h3, i1.mono x h4, i2.mono x h5, i3.mono x h6⟩⟩
theorem four4 {K : Fg} {G : Hp} {vs : List V} {α β γ δ : Type} {i0 : Rp α} {i1 : Rp β} {i2 : Rp γ} {i3 : Rp δ} {m0 : α} {m1 : β} {m2 : γ} {m3 : δ} (h : ArgsOk K G vs [.val i0 m0, .val i1 m1, .val i2 m2, .val i3 m3]) : ∃ v0 v1 v2 v3, vs = [v0, v1, v2, v3] ∧ i0.rp K G v0 m0 ∧ i1.rp K G v1 m1 ∧ i2.rp K G v2 m2 ∧ i3.rp K G v3 m3 := by
  cases h with
  | cons h t =>
    obtain ⟨v1, v2, v3, rfl, h1, h2, h3⟩ := three3 t
    cases h with
    | val h => exact ⟨_, v1, v2, v3, rfl, h, h1, h2, h3⟩
section
variable {X : Cx} {c : Cn} {ρ : List Sl} {α β γ δ : Type} {i0 : Rp α} {i1 : Rp β} {i2 : Rp γ} {i3 : Rp δ} {pos : Pos}
theorem e_tupX4 {e0 e1 e2 e3 : Expr} {k0 : Nat} {t : TA} {Φ : Pt (α × β × γ × δ × Unit)} (h : JA X c [e0, e1, e2, e3] ρ (aCons i0 (aCons i1 (aCons i2 (aCons i3 aNil)))) t Φ) :
    JE X c (.Tuple [e0, e1, e2, e3] k0 pos) ρ (rpX4 (i0 := i0) (i1 := i1) (i2 := i2) (i3 := i3)) (tTup t) (fun post ep => Φ (fun x => post ⟨x.1, x.2.1, x.2.2.1, x.2.2.2.1⟩) ep) := by
  refine ⟨pe_tup h.pe, fun post ep φ G H σ w E Q k hx => h.sem _ _ φ G H σ w E _ (fun G1 H1 vs x g1 r1 p => ?_) hx⟩
  obtain ⟨v0, v1, v2, v3, rfl, h0, h1, h2, h3⟩ := four4 (i0 := i0) (i1 := i1) (i2 := i2) (i3 := i3) r1
  refine ⟨by show 4 ≤ sizeLine; decide, fun q hq => ?_⟩
  have g := gr_new (o := .tup [v0, v1, v2, v3]) g1.w hq
  exact k _ _ _ _ (g1.trans g) ⟨q, v0, v1, v2, v3, rfl, SqT.of upd_same, i0.mono g.g h0, i1.mono g.g h1, i2.mono g.g h2, i3.mono g.g h3⟩ p
theorem ix_X4 {τ : Type} {iτ : Rp τ} (n : Nat) {get : X4 α β γ δ → τ} (hg : ∀ (K : Fg) (G : Hp) (y0 y1 y2 y3 : V) (m : X4 α β γ δ), i0.rp K G y0 m.x0 → i1.rp K G y1 m.x1 → i2.rp K G y2 m.x2 → i3.rp K G y3 m.x3 → ∃ v, atI [y0, y1, y2, y3] (n : Int) = some v ∧ iτ.rp K G v (get m)) :
    IxW X (rpX4 (i0 := i0) (i1 := i1) (i2 := i2) (i3 := i3)) rpI iτ (rIxT X.K) (fun p k post _ => k = n ∧ post (get p)) :=
  ⟨ix_tup, fun rs G H x y a b post ep Q w hx hy φ k => by
    obtain ⟨l, y0, y1, y2, y3, rfl, h1, h2, h3, h4, h5⟩ := hx
    obtain ⟨rfl, p⟩ := φ
    obtain ⟨v, e1, e2⟩ := hg _ _ _ _ _ _ a h2 h3 h4 h5
    exact ⟨l, [y0, y1, y2, y3], _, v, rfl, hy, w.s.st h1, e1, k G H _ _ (Gr.refl w) e2 p⟩⟩
theorem ix_X4_0 : IxW X (rpX4 (i0 := i0) (i1 := i1) (i2 := i2) (i3 := i3)) rpI i0 (rIxT X.K) (fun p k post _ => k = (0 : Nat) ∧ post p.x0) := ix_X4 0 fun _ _ y0 _ _ _ _ h _ _ _ => ⟨y0, rfl, h⟩
theorem ix_X4_1 : IxW X (rpX4 (i0 := i0) (i1 := i1) (i2 := i2) (i3 := i3)) rpI i1 (rIxT X.K) (fun p k post _ => k = (1 : Nat) ∧ post p.x1) := ix_X4 1 fun _ _ _ y1 _ _ _ _ h _ _ => ⟨y1, rfl, h⟩
theorem ix_X4_2 : IxW X (rpX4 (i0 := i0) (i1 := i1) (i2 := i2) (i3 := i3)) rpI i2 (rIxT X.K) (fun p k post _ => k = (2 : Nat) ∧ post p.x2) := ix_X4 2 fun _ _ _ _ y2 _ _ _ _ h _ => ⟨y2, rfl, h⟩
theorem ix_X4_3 : IxW X (rpX4 (i0 := i0) (i1 := i1) (i2 := i2) (i3 := i3)) rpI i3 (rIxT X.K) (fun p k post _ => k = (3 : Nat) ∧ post p.x3) := ix_X4 3 fun _ _ _ _ _ y3 _ _ _ _ h => ⟨y3, rfl, h⟩
/-- a pair of numbers, seen as a tuple -/
theorem up2 {α : Type} {i : Rp α} : UpW (rp2 (i := i) (j := i)) (rpT (i := i)) (fun p : α × α => (⟨[p.1, p.2]⟩ : Tu α)) := fun K G v m h => by
  obtain ⟨a, x, y, rfl, h1, h2, h3⟩ := h
  exact ⟨a, [x, y], rfl, h1, .cons h2 (.cons h3 .nil), by show 2 ≤ sizeLine; decide⟩
end

/-! ### own lists -/
def setN {α : Type} (xs : List α) (k : Int) (m : α) : List α := match ixN xs.length k with
  | some n => xs.set n m
  | none => xs
section
variable {X : Cx} {c : Cn} {ρ : List Sl} {S L β α : Type} {out : S → List Sl} {lp : L → List Sl} {i : Rp β} {iα : Rp α} {pos : Pos} {rest : List Stmt} {tr : TS} {e : Expr} {te : TE}
theorem fresh0 {c : Cn} {G H : Hp} {p : Addr} (g : Gr c.rs c.G0 c.H0 G H) (hp : H p = none) : c.H0 p = none ∧ G p = none := by
  constructor
  · by_cases q : c.H0 p = none
    · exact q
    · exact absurd hp (g.t p q)
  · cases e : G p with
    | none => rfl
    | some u =>
      have z := g.w.s p u e
      rw [hp] at z
      cases z
theorem rpAll_set {α : Type} {iα : Rp α} {K : Fg} {G : Hp} : ∀ {vs : List V} {ms : List α} (n : Nat) {v : V} {m : α}, RpAll iα K G vs ms → iα.rp K G v m → RpAll iα K G (vs.set n v) (ms.set n m)
  | _, _, _, _, _, .nil, _ => .nil
  | _, _, 0, _, _, .cons _ t, r => .cons r t
  | _, _, n + 1, _, _, .cons a t, r => .cons a (rpAll_set n t r)
/-- x = list(e), e a tuple: x is an own list -/
theorem b_newT [Nonempty α] (j : Nat) {x : Str} {px p1 p2 : Pos} {Φe : Pt (Tu α)} {Φr : Tu α → Pt (Out S L β)} (hN : X.N.Nodup) (hm : X.mg "list" = none) (he : JE X c e ρ (rpT (i := iα)) te Φe) (hr : ∀ m, JB X c rest (ρ.set j (.ml iα m.l)) out lp i tr (Φr m)) (hj : X.N[j]? = some x := by rfl) (hx : Loc X.env.scope x := by first | exact Or.inl rfl | exact Or.inr rfl)
    (hs : swapsWith (.Call (.Name "list" p1) [e] [] p2) (some (.Name x px)) pos.line X.env = pure false := by rfl) (hf : X.fn x = true ∨ X.env.scope.names.lookup x = some .local := by first | exact .inl rfl | exact .inr rfl) (hbv : bootBuiltins "list" = some (.type "list") := by decide +kernel) (hg : Gl X "list" := by rfl)
    (hst : starEach [e] X.env = (false, eval e X.env) :: starEach [] X.env := by rfl) :
    JB X c (.Assign [.Name x px] (.Call (.Name "list" p1) [e] [] p2) pos :: rest) ρ out lp i (tSeq (tAsg (tCB (rListOf X.K) (tCons te tNil)) (gName j)) tr) (fun post ep => Φe (fun m => Φr m post ep) ep) := by
  refine ⟨pss_cons (ps_set hN hj hx (pe_callTy call_list_of hg hm hbv (pa_cons he.pe pa_nil hst) (by decide) (by decide) hst) hs hf) (hr (Classical.choice inferInstance)).pe, fun post ep φ G H σ g E D k hx => ?_⟩
  refine he.sem _ _ φ G H σ g.w E _ (fun G1 H1 v m g1 r p => ?_) (hx.at g)
  obtain ⟨a, vs, rfl, h1, h2, h3⟩ := r
  refine ⟨a, vs, rfl, .inr (g1.w.s.st h1), fun l hl => ?_⟩
  have gn := gr_newH (o := .lst vs) g1.w hl
  obtain ⟨z1, z2⟩ := fresh0 (g.trans g1) hl
  refine (hr m).sem _ _ p G1 _ _ ((g.trans g1).trans gn) (((E.up g1).up gn).setOwn (x := .ml iα m.l) ⟨l, vs, rfl, upd_same, h2, z1, z2, not_new g1.w hl⟩ fun q y _ ey oy sy => ?_) D (k.up g1.g) hx
  exact absurd hl ((E.up g1).own_some ey oy sy)
/-- x[k] = e, x an own list -/
theorem b_setM [Nonempty α] {xs : List α} (j : Nat) {x : Str} {px pa : Pos} {ek : Expr} {tk : TE} {Φk : Pt Int} {Φe : Pt α} {Φr : α → Int → Pt (Out S L β)} (hρ : ρ[j]? = some (.ml iα xs)) (he : JE X c e ρ iα te Φe) (hk : JE X c ek ρ rpI tk Φk) (hr : ∀ m k, JB X c rest (ρ.set j (.ml iα (setN xs k m))) out lp i tr (Φr m k)) (hN : X.N[j]? = some x := by rfl)
    (hv : Vis X.env.scope x := by first | exact Or.inl rfl | exact Or.inr (Or.inl rfl) | exact Or.inr (Or.inr rfl)) (hd : (x == ("__debug__" : Str)) = false := by decide) (hcd : (x == ("__classdict__" : Str)) = false := by decide)
    (ha : ∀ v, assign (.Subscript (.Name x px) ek pa) X.env v = (do
      let ov ← holding [v] (eval (.Name x px) X.env)
      let iv ← holding [v, ov] (eval ek X.env)
      standAt pa
      holding [v, ov, iv] (setItem ov iv v)
      release [v, ov, iv] []) := by intro _; rfl)
    (hs : swapsWithSole [.Subscript (.Name x px) ek pa] e pos.line X.env = pure false := by rfl) (hw : swappedStores [.Subscript (.Name x px) ek pa] e X.env = pure none := by rfl)
    (hE : (assignEach [.Subscript (.Name x px) ek pa] X.env).map (·.2) = [assign (.Subscript (.Name x px) ek pa) X.env] := by rfl) :
    JB X c (.Assign [.Subscript (.Name x px) ek pa] e pos :: rest) ρ out lp i (tSeq (tAsg te (gSub (tVar j) tk rSetL)) tr) (fun post ep => Φe (fun m => Φk (fun k => (ixN xs.length k).isSome = true ∧ Φr m k post ep) ep) ep) := by
  refine ⟨pss_cons (ps_asg he.pe (pg_sub (pe_var hN hv hd hcd) hk.pe set_list ha) hs hw hE) (hr (Classical.choice inferInstance) 0).pe, fun post ep φ G H σ g E D kk hx => ?_⟩
  refine he.sem _ _ φ G H σ g.w E _ (fun G1 H1 v m g1 r p => ?_) (hx.at g)
  obtain ⟨l, vs, h1, _⟩ := (E.up g1).ok j _ hρ
  refine ⟨.ref l, h1, hk.sem _ _ p G1 H1 σ g1.w (E.up g1) _ (fun G2 H2 v2 k g2 r2 p2 => ?_) ((hx.at g).up g1)⟩
  obtain ⟨p3, p4⟩ := p2
  obtain ⟨n, hn⟩ := Option.isSome_iff_exists.mp p3
  have g12 := g1.trans g2
  obtain ⟨l', vs', h1', h2', h3', h4', h5', h6'⟩ := (E.up g12).ok j _ hρ
  rw [h1] at h1'
  cases h1'
  have hlen := h3'.length
  refine ⟨l, vs', k, n, rfl, r2, h2', by rw [hlen]; exact hn, ?_⟩
  have gm := gr_mut (o := .lst (vs'.set n v)) (g.trans g12) h4' h5' h6' (some_ne h2')
  have es : ∀ a, c.rs.S H2 a → upd H2 l (.lst (vs'.set n v)) a = H2 a := fun a ha => upd_ne fun z => h6' (z ▸ ha)
  have e1 : setN xs k m = xs.set n m := by
    unfold setN
    rw [hn]
  refine (hr m k).sem _ _ p4 G2 _ σ gm ((E.up g12).mut g2.w hρ rfl h1 h2' h6' (fun a z => by cases z) (x := .ml iα (setN xs k m)) ⟨l, vs'.set n v, rfl, upd_same, e1 ▸ rpAll_set n h3' (iα.mono g2.g r), h4', h5', fun z => h6' (((c.rs.loc g2.w.i es).2 l).mp z)⟩) D (kk.up g12.g) hx
end

section
variable {X : Cx} {c : Cn} {ρ : List Sl} {S L β α : Type} {out : S → List Sl} {lp : L → List Sl} {i : Rp β} {iα : Rp α} {pos : Pos} {rest : List Stmt} {tr : TS} {e : Expr} {te : TE}
/-- x.append(e): the call is looked at here -/
theorem b_app1 {xs : List α} (j : Nat) {x : Str} {px pa pc : Pos} {Φe : Pt α} {Φr : α → Pt (Out S L β)} (hρ : ρ[j]? = some (.ml iα xs)) [Nonempty α] (he : JE X c e ρ iα te Φe) (hr : ∀ m, JB X c rest (ρ.set j (.ml iα (xs ++ [m]))) out lp i tr (Φr m)) (hN : X.N[j]? = some x := by rfl)
    (hv : Vis X.env.scope x := by first | exact Or.inl rfl | exact Or.inr (Or.inl rfl) | exact Or.inr (Or.inr rfl)) (hd : (x == ("__debug__" : Str)) = false := by decide) (hcd : (x == ("__classdict__" : Str)) = false := by decide)
    (hs : swapsWith (.Call (.Attribute (.Name x px) "append" pa) [e] [] pc) none pos.line X.env = pure false := by rfl) (hbase : attributeBase (.Name x px) "append" X.env (eval (.Name x px) X.env) = eval (.Name x px) X.env := by rfl)
    (hfew : ((backTo pc (starEach [e] X.env)).all (fun x => !x.1) && (backToKw pc (keywordEach [] X.env)).all (fun x => x.1.isSome) && decide (([e] : List Expr).length + ([] : List Keyword).length + (if ([] : List Keyword).isEmpty then 0 else 1) < 30)) = true := by rfl)
    (hline : (pa.endLine == pc.line) = true := by rfl) (hst : starEach [e] X.env = (false, eval e X.env) :: starEach [] X.env := by rfl) :
    JB X c (.Expr (.Call (.Attribute (.Name x px) "append" pa) [e] [] pc) pos :: rest) ρ out lp i (tSeq (tDrop (tBM X.K "list" rAppend (tVar j) (tCons te tNil))) tr) (fun post ep => Φe (fun m => xs.length < sizeLine ∧ Φr m post ep) ep) :=
  b_app j hρ he hr (pe_bm PySem.F.plainAttrs_list PySem.F.slot_list_append PySem.F.type_list_append mt_append (pe_var hN hv hd hcd) (pa_cons he.pe pa_nil hst) hbase hfew hline hst rfl) hs
end

/-! ### an own list is lent: the result knows nothing of it -/
def hideH (l : Addr) (G : Hp) : Hp := fun a => if a = l then none else G a
theorem hide_ne {l a : Addr} {G : Hp} (h : a ≠ l) : hideH l G a = G a := if_neg h
theorem hide_eq {l : Addr} {G : Hp} : hideH l G l = none := if_pos rfl
/-- what is represented holds no list -/
class NoL (α : Type) (i : Rp α) : Prop where
  hide : ∀ {K : Fg} {G : Hp} {v : V} {m : α} {l : Addr} {vs : List V}, G l = some (.lst vs) → i.rp K G v m → i.rp K (hideH l G) v m
instance : NoL Int rpI := ⟨fun _ h => h⟩
instance : NoL Bool rpB := ⟨fun _ h => h⟩
instance : NoL Str rpS := ⟨fun _ h => h⟩
instance : NoL Unit rpN := ⟨fun _ h => h⟩
theorem sqT_hide {K : Fg} {G : Hp} {a l : Addr} {xs vs : List V} (h : G l = some (.lst vs)) (q : SqT K G a xs) : SqT K (hideH l G) a xs := by
  rcases q with (q | ⟨o, q⟩) | q
  · exact .inl (.inl (by rw [hide_ne fun z => by rw [z, h] at q; cases q]; exact q))
  · exact .inl (.inr ⟨o, by rw [hide_ne fun z => by rw [z, h] at q; cases q]; exact q⟩)
  · exact .inr q
instance {α β : Type} {i : Rp α} {j : Rp β} [n1 : NoL α i] [n2 : NoL β j] : NoL (α × β) (rp2 (i := i) (j := j)) := ⟨fun h r => by
  obtain ⟨a, x, y, h1, h2, h3, h4⟩ := r
  exact ⟨a, x, y, h1, sqT_hide h h2, n1.hide h h3, n2.hide h h4⟩⟩
instance {α : Type} {i : Rp α} [n : NoL α i] : NoL (Tu α) (rpT (i := i)) := ⟨fun h r => by
  obtain ⟨a, vs, h1, h2, h3, h4⟩ := r
  exact ⟨a, vs, h1, sqT_hide h h2, Paired.mapP h3 fun _ _ q => n.hide h q, h4⟩⟩
theorem gr_lend {G H G' H' : Hp} {l : Addr} {vs : List V} (w : Wd rs0 G H) (hg : G l = none) (hl : H l = some (.lst vs)) (g : Gr rs0 (upd G l (.lst vs)) H G' H') : Gr rs0 G H (hideH l G') H' := by
  have x1 : ∀ a o, G a = some o → a ≠ l := fun a o e z => by rw [z, hg] at e; cases e
  refine ⟨fun a o e => ?_, g.h, g.t, fun a h1 h2 => ?_, g.f, ⟨fun a o e => ?_, trivial, fun _ z => z.elim⟩⟩
  · rw [hide_ne (x1 a o e)]
    exact g.g a o (by rw [upd_ne (x1 a o e)]; exact e)
  · by_cases z : a = l
    · rw [z, hide_eq]
    · rw [hide_ne z]
      exact g.n a h1 (by rw [upd_ne z]; exact h2)
  · by_cases z : a = l
    · rw [z, hide_eq] at e
      cases e
    · rw [hide_ne z] at e
      exact g.w.s a o e
theorem wd_lend {G H : Hp} {l : Addr} {vs : List V} (w : Wd rs0 G H) (hl : H l = some (.lst vs)) : Wd rs0 (upd G l (.lst vs)) H := ⟨fun a o e => by
  by_cases z : a = l
  · rw [z, upd_same] at e
    rw [z, ← e]
    exact hl
  · rw [upd_ne z] at e
    exact w.s a o e, trivial, fun _ z => z.elim⟩
section
variable {X : Cx} {c : Cn} {ρ : List Sl} {α β γ : Type} {iα : Rp α} {iβ : Rp β} {iγ : Rp γ} {pos p px : Pos} {k : Nat} {f : Addr} {fd : FuncData} {ps : List Str} {x y : Str} {e : Expr} {te : TE}
/-- f(e, y), y an own list that f does not keep -/
theorem e_callL [nl : NoL γ iγ] {xs : List β} {Φe : Pt α} {Φ : α × List β × Unit → Pt γ} (j : Nat) (hρ : ρ[j]? = some (.ml iβ xs)) (F : FnOk X.prog X.w X.K X.mg X.base (L2.CX X.prog X.w) k f fd ps (spOf X.K rs0 (aCons iα (aCons (rpL (i := iβ)) aNil)) iγ Φ)) (hr : Room k X.A) (hm : X.mg x = some (.ref f)) (hk : PySem.W.keepIn X.K (.ref f) = true) (hb : Binds X.K fd ps []) (tk : Takes X c.wsh)
    (he : JE X c e ρ iα te Φe) (hN : X.N[j]? = some y := by rfl) (hv : Vis X.env.scope y := by first | exact Or.inl rfl | exact Or.inr (Or.inl rfl) | exact Or.inr (Or.inr rfl)) (hd : (y == ("__debug__" : Str)) = false := by decide) (hcd : (y == ("__classdict__" : Str)) = false := by decide)
    (hg : Gl X x := by rfl) (hdb : (x == ("__debug__" : Str)) = false := by decide) (hst : starEach [e, .Name y px] X.env = (false, eval e X.env) :: starEach [.Name y px] X.env := by rfl) (hst2 : starEach [.Name y px] X.env = (false, eval (.Name y px) X.env) :: starEach [] X.env := by rfl) (hpl : (backTo pos (starEach [.Name y px] X.env)).any (·.1) = false := by rfl) :
    JE X c (.Call (.Name x p) [e, .Name y px] [] pos) ρ iγ (tCallS (spOf X.K rs0 (aCons iα (aCons (rpL (i := iβ)) aNil)) iγ Φ) (fun σ => L2.WE c.wsh σ) (tCons te (tCons (tVar j) tNil))) (fun post ep => Φe (fun m => xs.length ≤ sizeLine ∧ Φ (m, xs, ()) post (fun _ => False)) ep) := by
  refine ⟨pe_callS F hr hg hm hk hb (fun σ => passAt tk σ) (pa_cons he.pe (pa_cons (pe_var hN hv hd hcd) pa_nil hst2) hst) hdb hst hpl, fun post ep φ G H σ w E Q kk hx => he.sem _ _ φ G H σ w E _ (fun G1 H1 v m g1 r1 p1 => ?_) hx⟩
  obtain ⟨pz, p1⟩ := p1
  obtain ⟨l, vs, h1, h2, h3, h4, h5, h6⟩ := (E.up g1).ok j _ hρ
  have w0 := g1.w.to0
  have xe : Ex G1 (upd G1 l (.lst vs)) := Ex.new h5
  refine ⟨.ref l, h1, ?_⟩
  refine ⟨upd G1 l (.lst vs), (m, xs, ()), post, fun _ => False, wd_lend w0 h2, .cons (.val (iα.mono xe r1)) (.cons (.val ⟨l, vs, rfl, upd_same, h3.mono xe, by rw [h3.length]; exact pz⟩) .nil), p1, fun G' H' v' m' g r p => ?_, fun _ _ _ _ _ _ _ z => z.elim⟩
  have gl := gr_lend w0 h5 h2 g
  exact kk _ H' v' m' (g1.trans (gl.lift g1.w)) (nl.hide (g.g l _ upd_same) r) p
/-- an own list compared with a value -/
theorem t_cmpM {op : CmpOp} {xs : List β} {b : Expr} {tb : TE} {Φb : Pt α} {r : R2} {Φ : List β → α → Pt Bool} (j : Nat) (hρ : ρ[j]? = some (.ml iβ xs)) (ho : OpW X (compareOp op) (rpL (i := iβ)) iα rpB r Φ) (hb : JE X c b ρ iα tb Φb) (hm : behindInMarks op b = false) (hN : X.N[j]? = some y := by rfl) (hv : Vis X.env.scope y := by first | exact Or.inl rfl | exact Or.inr (Or.inl rfl) | exact Or.inr (Or.inr rfl))
    (hd : (y == ("__debug__" : Str)) = false := by decide) (hcd : (y == ("__classdict__" : Str)) = false := by decide) : JT X c (.Compare (.Name y px) [op] [b] pos) ρ (tTest (tOp r (tVar j) tb)) (fun post ep => Φb (fun z => xs.length ≤ sizeLine ∧ Φ xs z post ep) ep) := by
  refine ⟨pt_cmpR ho.pe (pe_var hN hv hd hcd) hb.pe hm, fun post ep φ G H σ w E Q kk hx => ?_⟩
  obtain ⟨l, vs0, h1, _⟩ := E.ok j _ hρ
  refine ⟨.ref l, h1, hb.sem _ _ φ G H σ w E _ (fun G1 H1 v m g1 r1 p1 => ?_) hx⟩
  obtain ⟨pz, p1⟩ := p1
  obtain ⟨l', vs, h1', h2, h3, h4, h5, h6⟩ := (E.up g1).ok j _ hρ
  rw [h1] at h1'
  cases h1'
  have w0 := g1.w.to0
  have xe : Ex G1 (upd G1 l (.lst vs)) := Ex.new h5
  refine ho.sem rs0 _ H1 (.ref l) v xs m post ep _ (wd_lend w0 h2) ⟨l, vs, rfl, upd_same, h3.mono xe, by rw [h3.length]; exact pz⟩ (iα.mono xe r1) p1 fun G' H' z b g rb pb => ?_
  exact ⟨b, rb, kk _ H' b (g1.trans ((gr_lend w0 h5 h2 g).lift g1.w)) pb⟩
end
end Ty

set_option Elab.async false
set_option linter.all false
set_option maxRecDepth 100000
set_option maxHeartbeats 1000000
set_option autoImplicit false
/-! Bg: the bag [[numbers], number, ..] of a law as a resource; N numbers -/
namespace Ty
open PySem PySem.Spec PyProof.Rows L2

/-- a new bag, known for good -/
abbrev rpBg (N : Nat) : Rp Unit := ⟨fun K G v _ => ∃ (p l : Addr) (is ns : List Int), v = .ref p ∧ is.length = N ∧ G p = some (.lst (.ref l :: is.map V.int)) ∧ G l = some (.lst (ns.map V.int)), fun e h => by
  obtain ⟨p, l, is, ns, h1, h2, h3, h4⟩ := h
  exact ⟨p, l, is, ns, h1, h2, e _ _ h3, e _ _ h4⟩⟩
theorem e_bg2 {X : Cx} {c : Cn} {ρ : List Sl} {es : List Expr} {t : TA} {pos : Pos} {Φ : Pt (List Int × Int × Int × Unit)} (h : JA X c es ρ (aCons (rpL (i := rpI)) (aCons rpI (aCons rpI aNil))) t Φ) : JE X c (.List es pos) ρ (rpBg 2) (tLst t) (fun post ep => Φ (fun _ => post ()) ep) := by
  refine ⟨pe_lst h.pe, fun post ep φ G H σ w E Q k hx => h.sem _ _ φ G H σ w E _ (fun G1 H1 vs x g1 r1 p => ?_) hx⟩
  obtain ⟨xl, x1, x2, u⟩ := x
  obtain ⟨v, v1, v2, rfl, a, rfl, rfl⟩ := three3 (i := rpL (i := rpI)) (j := rpI) (k := rpI) r1
  obtain ⟨l, ws, rfl, e1, e2, e3⟩ := a
  rw [ints_of e2] at e1
  refine ⟨by show 3 ≤ sizeLine; decide, fun q hq => ?_⟩
  have g := gr_new (o := .lst [.ref l, .int x1, .int x2]) g1.w hq
  exact k _ _ _ _ (g1.trans g) ⟨q, l, [x1, x2], xl, rfl, rfl, upd_same, g.g _ _ e1⟩ p

/-! ### the resource -/
def bgI (N : Nat) (q : Addr) (H : Hp) : Prop := ∃ (l : Addr) (is ns : List Int), is.length = N ∧ H q = some (.lst (.ref l :: is.map V.int)) ∧ H l = some (.lst (ns.map V.int))
def rsG (N : Nat) (q : Addr) : Rs := ⟨bxS q, bgI N q, by
  intro H H' i k
  obtain ⟨l, is, ns, h0, h1, h2⟩ := i
  have e1 : H' q = H q := k q (.inl rfl)
  have e2 : H' l = H l := k l (.inr ⟨_, h1⟩)
  refine ⟨⟨l, is, ns, h0, e1.trans h1, e2.trans h2⟩, fun a => ?_⟩
  unfold bxS
  rw [e1], by
  intro H a i s
  obtain ⟨l, is, ns, h0, h1, h2⟩ := i
  rcases s with rfl | ⟨t, s⟩
  · exact some_ne h1
  · rw [h1] at s
    cases s
    exact some_ne h2⟩
theorem gr_bg {N : Nat} {q l : Addr} {G H H' : Hp} {is ns : List Int} (w : Wd (rsG N q) G H) (hN : is.length = N) (hq : H' q = some (.lst (.ref l :: is.map V.int))) (hl : H' l = some (.lst (ns.map V.int))) (hn : bxS q H l)
    (keep : ∀ a o, a ≠ q → a ≠ l → H a = some o → H' a = some o) : Gr (rsG N q) G H G H' := by
  have nG : ∀ a, bxS q H a → G a = none := fun a h => w.n a h
  have fS : ∀ a, bxS q H' a → bxS q H a := fun a s => by
    rcases s with rfl | ⟨t, s⟩
    · exact .inl rfl
    · rw [hq] at s
      cases s
      exact hn
  refine ⟨Ex.refl _, fun a o hs e => keep a o (fun z => hs (.inl z)) (fun z => hs (z ▸ hn)) e, fun a e => ?_, fun a _ h => h, fun a s => .inl (fS a s), ⟨fun a o e => ?_, ⟨l, is, ns, hN, hq, hl⟩, fun a s => nG a (fS a s)⟩⟩
  · by_cases z : a = q
    · rw [z]
      exact some_ne hq
    · by_cases y : a = l
      · rw [y]
        exact some_ne hl
      · cases e2 : H a with
        | none => exact absurd e2 e
        | some o => exact some_ne (keep a o z y e2)
  · refine keep a o (fun z => ?_) (fun z => ?_) (w.s a o e)
    · rw [z, nG q (.inl rfl)] at e
      cases e
    · rw [z, nG l hn] at e
      cases e
theorem ixNn {n k : Nat} (h : k < n) : ixN n (k : Int) = some k := by
  unfold ixN
  rw [if_pos (Int.natCast_nonneg k), if_pos (by omega)]
  simp
theorem atI_cons {α : Type} {x : α} {xs : List α} {k : Nat} {y : α} (h : xs[k]? = some y) : atI (x :: xs) ((k + 1 : Nat) : Int) = some y := by
  have hk := (List.getElem?_eq_some_iff.mp h).1
  unfold atI
  rw [ixNn (by rw [List.length_cons]; omega)]
  simpa using h
section
variable {X : Cx} {c : Cn} {ρ : List Sl} {q : Addr} {x : Str} {px pk pos : Pos} {N : Nat}
/-- bag[k], a number -/
theorem e_bgI {k : Nat} {jj : Nat} (j : Nat) (hc : c.rs = rsG N q) (hρ : ρ[j]? = some (.rf q)) (hk : k < N) (hN : X.N[j]? = some x := by rfl) (hv : Vis X.env.scope x := by first | exact Or.inl rfl | exact Or.inr (Or.inl rfl) | exact Or.inr (Or.inr rfl))
    (hd : (x == ("__debug__" : Str)) = false := by decide) (hcd : (x == ("__classdict__" : Str)) = false := by decide) (hs : PlainIxT (.Constant (.int ((k + 1 : Nat) : Int)) jj pk) := by exact fun _ _ => rfl) : JE X c (.Subscript (.Name x px) (.Constant (.int ((k + 1 : Nat) : Int)) jj pk) pos) ρ rpI (tOp (rIxL X.K) (tVar j) (tC (.int ((k + 1 : Nat) : Int)))) (fun post _ => ∀ n : Int, post n) := by
  refine ⟨pe_ix ix_list (pe_var hN hv hd hcd) pe_int hs, fun post ep φ G H σ w E Q kk hx => ?_⟩
  have I := w.i
  rw [hc] at I
  obtain ⟨l, is, ns, h0, h1, h2⟩ := I
  obtain ⟨n, hn⟩ : ∃ n, is[k]? = some n := ⟨_, List.getElem?_eq_getElem (by rw [h0]; exact hk)⟩
  exact ⟨.ref q, E.ok j _ hρ, q, _, ((k + 1 : Nat) : Int), .int n, rfl, rfl, SqL.of h1, atI_cons (by rw [List.getElem?_map, hn]; rfl), kk G H _ n (Gr.refl w) rfl (φ n)⟩
variable {S L β : Type} {out : S → List Sl} {lp : L → List Sl} {i : Rp β} {rest : List Stmt} {tr : TS} {e : Expr} {te : TE} {Φe : Pt Int} {Φr : Pt (Out S L β)} {ps : Pos}
theorem b_bgSet {k : Nat} {jj : Nat} (j : Nat) (hc : c.rs = rsG N q) (hρ : ρ[j]? = some (.rf q)) (hk : k < N) (he : JE X c e ρ rpI te Φe) (hr : JB X c rest ρ out lp i tr Φr) (hN : X.N[j]? = some x := by rfl) (hv : Vis X.env.scope x := by first | exact Or.inl rfl | exact Or.inr (Or.inl rfl) | exact Or.inr (Or.inr rfl))
    (hd : (x == ("__debug__" : Str)) = false := by decide) (hcd : (x == ("__classdict__" : Str)) = false := by decide)
    (ha : ∀ v, assign (.Subscript (.Name x px) (.Constant (.int ((k + 1 : Nat) : Int)) jj pk) pos) X.env v = (do
      let ov ← holding [v] (eval (.Name x px) X.env)
      let iv ← holding [v, ov] (eval (.Constant (.int ((k + 1 : Nat) : Int)) jj pk) X.env)
      standAt pos
      holding [v, ov, iv] (setItem ov iv v)
      release [v, ov, iv] []) := by intro _; rfl)
    (hs : swapsWithSole [.Subscript (.Name x px) (.Constant (.int ((k + 1 : Nat) : Int)) jj pk) pos] e ps.line X.env = pure false := by rfl) (hw : swappedStores [.Subscript (.Name x px) (.Constant (.int ((k + 1 : Nat) : Int)) jj pk) pos] e X.env = pure none := by rfl)
    (hE : (assignEach [.Subscript (.Name x px) (.Constant (.int ((k + 1 : Nat) : Int)) jj pk) pos] X.env).map (·.2) = [assign (.Subscript (.Name x px) (.Constant (.int ((k + 1 : Nat) : Int)) jj pk) pos) X.env] := by rfl) :
    JB X c (.Assign [.Subscript (.Name x px) (.Constant (.int ((k + 1 : Nat) : Int)) jj pk) pos] e ps :: rest) ρ out lp i (tSeq (tAsg te (gSub (tVar j) (tC (.int ((k + 1 : Nat) : Int))) rSetL)) tr) (fun post ep => Φe (fun _ => Φr post ep) ep) := by
  refine ⟨pss_cons (ps_asg he.pe (pg_sub (pe_var hN hv hd hcd) pe_int set_list ha) hs hw hE) hr.pe, fun post ep φ G H σ g E D kk hx => ?_⟩
  refine he.sem _ _ φ G H σ g.w E _ (fun G1 H1 v m g1 r p => ?_) (hx.at g)
  obtain rfl : v = .int m := r
  have w1 : Wd (rsG N q) G1 H1 := hc ▸ g1.w
  obtain ⟨l, is, ns, h0, h1, h2⟩ := w1.i
  have lq : l ≠ q := fun z => by
    rw [z, h1] at h2
    have h3 := HO.lst.inj (Option.some.inj h2)
    cases ns with
    | nil => cases h3
    | cons n ns => cases h3
  have eset : (V.ref l :: is.map V.int).set (k + 1) (.int m) = V.ref l :: (is.set k m).map V.int := by rw [List.set_cons_succ, List.map_set]
  have gb : Gr c.rs G1 H1 G1 (upd H1 q (.lst (V.ref l :: (is.set k m).map V.int))) := hc ▸ gr_bg (l := l) (ns := ns) w1 (by rw [List.length_set]; exact h0) upd_same (by rw [upd_ne lq]; exact h2) (.inr ⟨_, h1⟩) (fun u o z _ e => by rw [upd_ne z]; exact e)
  refine ⟨.ref q, E.ok j _ hρ, q, _, ((k + 1 : Nat) : Int), k + 1, rfl, rfl, h1, ixNn (by rw [List.length_cons, List.length_map]; omega), ?_⟩
  rw [eset]
  exact hr.sem _ _ p _ _ σ ((g.trans g1).trans gb) (E.up (g1.trans gb)) D (kk.up (g1.trans gb).g) hx
/-! ### great = bag[0]; if great: a digit of its first number -/
def tBg (K : Fg) : TS := tSeq (tAsg (tOp (rIxL K) (tVar 0) (tC (.int 0))) (gName 2)) (tSeq (tIfS (fun σ H Q => tVar 2 σ H fun x H' => ∃ k, TruV K x H' k ∧ Q k H')
  (tSeq (tAsg (tOp (rI (fun _ j => 0 < j) fun i j => .int (i % j)) (tCB rInt1 (tCons (tOp (rIxL K) (tVar 2) (tC (.int 0))) tNil)) (tVar 1)) (gName 3))
    (tSeq (tAsg (tOp (rI CDiv fun i j => .int (i / j)) (tOp (rIxL K) (tVar 2) (tC (.int 0))) (tVar 1)) (gSub (tVar 2) (tC (.int 0)) rSetL))
      (tSeq (tIfS (tTest (tOp rEq (tOp (rIxL K) (tVar 2) (tC (.int 0))) (tC (.int 0)))) (tSeq (tDrop (tBM K "list" rPopAt (tVar 2) (tCons (tC (.int 0)) tNil))) tNext) tNext) (tSeq (tRet (tVar 3)) tNever)))) tNext) tNext)
theorem b_bgTake {s1 s2 : Stmt} {many : Int} {ρ' : List Sl} {Φr : Pt (Out S L Int)} (hc : c.rs = rsG N q) (h0 : ρ[0]? = some (.rf q)) (h1 : ρ[1]? = some (.val rpI many)) (hlen : 3 < ρ.length) (he : ρ' = (ρ.set 2 .no)) (hps : ∀ tr (hr : PSs X rest tr), ∃ t1, PSs X (s1 :: s2 :: rest) t1 ∧ ∀ D σ H, tBg X.K { D with nx := tr D } σ H → t1 D σ H) (hr : JB X c rest ρ' out lp rpI tr Φr) :
    ∃ t1, JB X c (s1 :: s2 :: rest) ρ out lp rpI t1 (fun post ep => (0 < many ∧ many < 1073741824) ∧ (∀ r : Int, 0 ≤ r → r < many → post (.rt r)) ∧ Φr post ep) := by
  obtain ⟨t1, p1, p2⟩ := hps tr hr.pe
  refine ⟨t1, p1, fun post ep φ G H σ g E D k hx => p2 D σ H ?_⟩
  obtain ⟨⟨m1, m2⟩, φd, φr⟩ := φ
  have w0 : Wd (rsG N q) G H := hc ▸ g.w
  obtain ⟨l, is, ns, n0, n1, n2⟩ := w0.i
  have hv := E.ok 0 _ h0
  obtain ⟨vm, hm, rm⟩ := E.val h1
  obtain rfl : vm = .int many := rm
  have hσl : 3 < σ.length := by rw [E.len]; exact hlen
  have s0 : (σ.set 2 (some (.ref l)))[0]? = some (some (.ref q)) := by rw [List.getElem?_set_ne (by decide)]; exact hv
  have s1 : (σ.set 2 (some (.ref l)))[1]? = some (some (.int many)) := by rw [List.getElem?_set_ne (by decide)]; exact hm
  have s2 : (σ.set 2 (some (.ref l)))[2]? = some (some (.ref l)) := List.getElem?_set_self (by omega)
  have lq : l ≠ q := fun z => by
    rw [z, n1] at n2
    have h3 := HO.lst.inj (Option.some.inj n2)
    cases ns with
    | nil => cases h3
    | cons n ns => cases h3
  refine ⟨.ref q, hv, q, _, 0, .ref l, rfl, rfl, SqL.of n1, at0, .ref l, s2, !(ns.map V.int).isEmpty, .inl ⟨_, SqL.of n2, rfl⟩, ?_⟩
  cases ns with
  | nil =>
    rw [he] at hr
    exact hr.sem _ _ φr G H _ g (E.set (x := .no) trivial rfl) D k hx
  | cons n ns =>
    have z0 : atI ((n :: ns).map V.int) 0 = some (.int n) := at0
    have s3 : ∀ v : V, ((σ.set 2 (some (.ref l))).set 3 (some v))[1]? = some (some (.int many)) ∧ ((σ.set 2 (some (.ref l))).set 3 (some v))[2]? = some (some (.ref l)) ∧ ((σ.set 2 (some (.ref l))).set 3 (some v))[3]? = some (some v) := fun v => by
      refine ⟨?_, ?_, List.getElem?_set_self (by rw [List.length_set]; exact hσl)⟩
      · rw [List.getElem?_set_ne (by decide)]; exact s1
      · rw [List.getElem?_set_ne (by decide)]; exact s2
    have hw : ixN (((n :: ns).map V.int).length) 0 = some 0 := ixNn (k := 0) (by simp)
    obtain ⟨a1, a2, a3⟩ := s3 (.int (n % many))
    refine ⟨.ref l, s2, l, _, 0, .int n, rfl, rfl, SqL.of n2, z0, .inl ⟨n, rfl, .int many, s1, n, many, rfl, rfl, m1, ?_⟩⟩
    refine ⟨.ref l, a2, l, _, 0, .int n, rfl, rfl, SqL.of n2, z0, .int many, a1, n, many, rfl, rfl, ⟨m1, m2⟩, .ref l, a2, l, _, 0, 0, rfl, rfl, n2, hw, ?_⟩
    have hu : ∀ o : HO, upd H l o q = some (.lst (.ref l :: is.map V.int)) := fun o => by rw [upd_ne fun z => lq z.symm]; exact n1
    have fin : ∀ (H' : Hp) (ms : List Int), H' q = some (.lst (.ref l :: is.map V.int)) → H' l = some (.lst (ms.map V.int)) → (∀ a o, a ≠ q → a ≠ l → H a = some o → H' a = some o) → D.rt (.int (n % many)) H' := fun H' ms e1 e2 e3 => by
      have gb : Gr c.rs G H G H' := hc ▸ gr_bg (l := l) (ns := ms) w0 n0 e1 e2 (.inr ⟨_, n1⟩) e3
      exact k.rt G H' _ (n % many) (g.trans gb) (Ex.refl _) rfl (φd _ (Int.emod_nonneg _ (by omega)) (Int.emod_lt_of_pos _ m1))
    have e1 : ((n :: ns).map V.int).set 0 (.int (n / many)) = (n / many :: ns).map V.int := rfl
    rw [e1]
    have z1 : atI ((n / many :: ns).map V.int) 0 = some (.int (n / many)) := at0
    refine ⟨.ref l, a2, l, _, 0, .int (n / many), rfl, rfl, SqL.of upd_same, z1, rfl, decide ((V.int (n / many)) = V.int 0), rfl, ?_⟩
    cases hd : decide ((V.int (n / many)) = V.int 0) with
    | true =>
      refine ⟨.ref l, a2, .inl ⟨rfl, _, SqL.of upd_same⟩, l, _, 0, 0, .int (n / many), rfl, rfl, upd_same, by decide, by decide, ?_, rfl, .int (n % many), a3, ?_⟩
      · simp [seqIndex?]
      · exact fin _ ns (by rw [upd_ne fun z => lq z.symm]; exact hu _) upd_same fun a o y z e => by rw [upd_ne z, upd_ne z]; exact e
    | false => exact ⟨.int (n % many), a3, fin _ (n / many :: ns) (hu _) upd_same fun a o y z e => by rw [upd_ne z]; exact e⟩
end
/-! ### the script walked -/
theorem walkG_scr {K : Fg} {a : Addr} {ns : List Int} : WalkG K rpI (Itl K a) (fun G => SqL K G a (ns.map V.int)) ns := by
  have hl : (ns.map V.int).length = ns.length := List.length_map _
  refine ⟨fun G G' e h => e.sl h, _, _, hl ▸ walk_list (K := K) (a := a) (xs := ns.map V.int), fun G H e h => e.sl h, fun rs j m G H x H' w h e y => ?_⟩
  obtain ⟨rfl, hx⟩ := y
  rw [List.getElem?_map, e] at hx
  cases hx
  exact ⟨G, Gr.refl w, rfl⟩
theorem i_scr {X : Cx} {c : Cn} {ρ : List Sl} {tg e : Expr} {Φ : Pt (List Int)} {te : TE} (he : JE X c e ρ rpQ te Φ) : JI X c tg e ρ rpI (iList X.K te) (fun post ep => Φ (fun xs => xs.length ≤ sizeLine → post xs) ep) := by
  refine ⟨pi_list he.pe, fun post ep φ G H σ w E R k hx => he.sem _ _ φ G H σ w E _ (fun G1 H1 v m g r p => ?_) hx⟩
  obtain ⟨a, rfl, h1, h2⟩ := r
  exact ⟨a, rfl, ⟨_, g.w.s.sl h1⟩, k G1 H1 _ m _ g walkG_scr h1 (p h2)⟩

/-! ### a law that makes its bag first -/
theorem fn_okBg {P : Program} {w : World} {K : Fg} {mg : Str → Option Value} {base : Heap} {x qual : Str} {params : Arguments} {body rest : List Stmt} {s1 : Stmt} {scope : Scope} {f : Addr} {fd : FuncData} {N : List Str} {k n nb : Nat} {dvs : List V} {kws : List (Str × V)}
    (F : FunD K x qual params body scope dvs kws f fd) (hbd : body = s1 :: rest) (S : FnScope N ["script"] scope) (hn : n ≤ sizeLine) {Φr : Pt (Out Unit Empty Bool)} {Φe : List Int → Pt Unit}
    (hb1 : ∀ (cdv : Value) (A : Around) (outer : List Env) (s : Shared) (H : Hp) (E : XK), Room k (A.deeper (envOfC qual scope s.heap.objs.size f cdv)) →
      ∃ te, PS (Cf P w K mg base N qual scope f cdv A outer s H E) s1 (tAsg te (gName 1)) ∧ (∀ ns : List Int, JE (Cf P w K mg base N qual scope f cdv A outer s H E) (Cc rs0 H H E) (asgE s1) (.val rpQ ns :: List.replicate (N.length - 1) .no) (rpBg nb) te (Φe ns)))
    (hb2 : ∀ (cdv : Value) (A : Around) (outer : List Env) (s : Shared) (H : Hp) (E : XK), Room k (A.deeper (envOfC qual scope s.heap.objs.size f cdv)) →
      ∃ tr, ∀ (p : Addr) (H' : Hp), JB (Cf P w K mg base N qual scope f cdv A outer s H E) (Cc (rsG nb p) H H' E) rest ((List.replicate N.length Sl.no).set 1 (.rf p)) (fun _ : Unit => List.replicate N.length .no) (fun z : Empty => nomatch z) rpB tr Φr)
    (hΦe : ∀ ns, Φe ns (fun _ => True) (fun _ => False)) (hΦ : Φr (endP False fun b => b = true) (fun _ => False)) : FnOk P w K mg base (L2.CX P w) (k + 1) f fd ["script"] (spL K n) := by
  refine F.ok S (fun vs H Q E h => ?_) (fun cdv A outer s H vs Q E hr h => ?_)
  · obtain ⟨a, ns, rfl, _⟩ := h
    rfl
  · obtain ⟨a, ns, rfl, hS, hl, hO, hQ⟩ := h
    obtain ⟨te, hs, h1⟩ := hb1 cdv A outer s H E hr
    obtain ⟨tr, h2⟩ := hb2 cdv A outer s H E hr
    refine ⟨tSeq (tAsg te (gName 1)) tr, by rw [hbd]; exact pss_cons hs (h2 0 H).pe, ?_⟩
    have w0 : Wd rs0 H H := ⟨Ex.refl _, trivial, fun _ h => h.elim⟩
    have e0 : En K rs0 H H H (start N [.ref a]) (.val rpQ ns :: List.replicate (N.length - 1) .no) :=
      en_args (rs := rs0) (H0 := H) (H := H) (as := [.val rpQ ns]) (.cons (.val ⟨a, rfl, hS, Nat.le_trans hl hn⟩) .nil) (N.length - 1)
    refine (h1 ns).sem (fun _ => True) (fun _ => False) (hΦe ns) H H _ w0 e0 _ (fun G1 H1 v m g r _ => ?_) (fun _ _ _ _ _ _ _ z => z.elim)
    obtain ⟨p, l, is, ms, rfl, p0, p1, p2⟩ := r
    have fresh : ∀ b o, G1 b = some (.lst o) → H b = none := fun b o e => by
      rcases hO b with h | ⟨u, xs, h⟩
      · exact h
      · have := g.g b _ h
        rw [e] at this
        cases this
    have q1 := g.w.s _ _ p1
    have w2 : Wd (rsG nb p) H H1 := ⟨fun b o e => g.h b o (fun z => z) e, ⟨l, is, ms, p0, q1, g.w.s _ _ p2⟩, fun b s => by
      rcases s with rfl | ⟨t, s⟩
      · exact fresh _ _ p1
      · rw [q1] at s
        cases s
        exact fresh _ _ p2⟩
    have hlen : (start N [V.ref a]).length = N.length := by
      rw [e0.len]
      have hN : N.take 1 = [(Str.ofString "script")] := S.pre
      have : 1 ≤ N.length := by
        have := congrArg List.length hN
        simp at this
        omega
      simp
      omega
    refine (h2 p H1).sem _ _ hΦ H H1 _ (Gr.refl w2) ((en_none hlen).set (x := .rf p) rfl rfl) _ ⟨?_, ?_, ?_, ?_⟩ ?_
    · exact fun G' H' σ' s' g _ _ p => p.elim
    · intro G' H' v b g _ r pb
      obtain rfl : v = .bl b := r
      have pb : b = true := pb
      rw [pb]
      exact hQ H'
    · exact fun G' H' σ' l g _ _ p => p.elim
    · exact fun G' H' σ' l g _ _ p => p.elim
    · exact fun G' H' σ' cls d e g r p => p.elim
end Ty

set_option Elab.async false
set_option linter.all false
set_option maxRecDepth 100000
set_option maxHeartbeats 0
set_option autoImplicit false
namespace K30
open PySem PySem.Spec PyProof.Rows L2 Ty
abbrev pw : Program := PySem.Challenge.pw_valvewise_k30_tariffs
def top (i : Nat) : Stmt := pw.main.body.getD i (.Pass ⟨0, 0, 0, 0⟩)
abbrev s_InvalidNumber_init : Stmt := inClass (top 2) 0
abbrev s_is_integer : Stmt := top 4
abbrev s_is_within : Stmt := top 5
abbrev s_check_number : Stmt := top 8
abbrev s_Tariff_init : Stmt := inClass (top 9) 0
abbrev s_Tariff_price_of : Stmt := inClass (top 9) 1
abbrev s_Tariff_call : Stmt := inClass (top 9) 2
abbrev s_BlockTariff_init : Stmt := inClass (top 10) 0
abbrev s_BlockTariff_price_of : Stmt := inClass (top 10) 1
abbrev s_FreeTariff_init : Stmt := inClass (top 11) 0
abbrev s_FreeTariff_price_of : Stmt := inClass (top 11) 1
abbrev s_law_bag : Stmt := top 13
abbrev s_law_take : Stmt := top 14
abbrev s_law_number : Stmt := top 15
abbrev s_law_wrong : Stmt := top 16
abbrev s_law_blocks : Stmt := top 17
abbrev s_law_plan : Stmt := top 18
abbrev s_law_made : Stmt := top 19
abbrev s_law_units : Stmt := top 20
abbrev s_law_price : Stmt := top 21
abbrev s_law_fault : Stmt := top 22
abbrev s_law_bent : Stmt := top 23
abbrev s_law_is : Stmt := top 24
abbrev s_law_same : Stmt := top 25
abbrev s_law_refused : Stmt := top 26
abbrev s_law_below : Stmt := top 27
abbrev s_law_pairs : Stmt := top 28
abbrev s_law_keeps : Stmt := top 29
abbrev s_law_holds : Stmt := top 30
abbrev s_law_refuses : Stmt := top 31
abbrev s_law : Stmt := top 32
def dd_is_integer : He.DefD := ⟨("is_integer", none), "is_integer", "is_integer", defArgs s_is_integer, defBody s_is_integer, defScope s_is_integer, [], []⟩
def dd_is_within : He.DefD := ⟨("is_within", none), "is_within", "is_within", defArgs s_is_within, defBody s_is_within, defScope s_is_within, [], []⟩
def dd_check_number : He.DefD := ⟨("check_number", none), "check_number", "check_number", defArgs s_check_number, defBody s_check_number, defScope s_check_number, [], []⟩
def dd_Tariff_init : He.DefD := ⟨("Tariff", some "__init__"), "__init__", "Tariff.__init__", defArgs s_Tariff_init, defBody s_Tariff_init, defScope s_Tariff_init, [], []⟩
def dd_Tariff_price_of : He.DefD := ⟨("Tariff", some "price_of"), "price_of", "Tariff.price_of", defArgs s_Tariff_price_of, defBody s_Tariff_price_of, defScope s_Tariff_price_of, [], []⟩
def dd_Tariff_call : He.DefD := ⟨("Tariff", some "__call__"), "__call__", "Tariff.__call__", defArgs s_Tariff_call, defBody s_Tariff_call, defScope s_Tariff_call, [], []⟩
def dd_law_bag : He.DefD := ⟨("_law_bag", none), "_law_bag", "_law_bag", defArgs s_law_bag, defBody s_law_bag, defScope s_law_bag, [], []⟩
def dd_law_take : He.DefD := ⟨("_law_take", none), "_law_take", "_law_take", defArgs s_law_take, defBody s_law_take, defScope s_law_take, [], []⟩
def dd_law_number : He.DefD := ⟨("_law_number", none), "_law_number", "_law_number", defArgs s_law_number, defBody s_law_number, defScope s_law_number, [], []⟩
def dd_law_wrong : He.DefD := ⟨("_law_wrong", none), "_law_wrong", "_law_wrong", defArgs s_law_wrong, defBody s_law_wrong, defScope s_law_wrong, [], []⟩
def dd_law_blocks : He.DefD := ⟨("_law_blocks", none), "_law_blocks", "_law_blocks", defArgs s_law_blocks, defBody s_law_blocks, defScope s_law_blocks, [], []⟩
def dd_law_plan : He.DefD := ⟨("_law_plan", none), "_law_plan", "_law_plan", defArgs s_law_plan, defBody s_law_plan, defScope s_law_plan, [], []⟩
def dd_law_made : He.DefD := ⟨("_law_made", none), "_law_made", "_law_made", defArgs s_law_made, defBody s_law_made, defScope s_law_made, [], []⟩
def dd_law_units : He.DefD := ⟨("_law_units", none), "_law_units", "_law_units", defArgs s_law_units, defBody s_law_units, defScope s_law_units, [], []⟩
def dd_law_price : He.DefD := ⟨("_law_price", none), "_law_price", "_law_price", defArgs s_law_price, defBody s_law_price, defScope s_law_price, [], []⟩
def dd_law_fault : He.DefD := ⟨("_law_fault", none), "_law_fault", "_law_fault", defArgs s_law_fault, defBody s_law_fault, defScope s_law_fault, [], []⟩
def dd_law_bent : He.DefD := ⟨("_law_bent", none), "_law_bent", "_law_bent", defArgs s_law_bent, defBody s_law_bent, defScope s_law_bent, [], []⟩
def dd_law_is : He.DefD := ⟨("_law_is", none), "_law_is", "_law_is", defArgs s_law_is, defBody s_law_is, defScope s_law_is, [], []⟩
def dd_law_same : He.DefD := ⟨("_law_same", none), "_law_same", "_law_same", defArgs s_law_same, defBody s_law_same, defScope s_law_same, [], []⟩
def dd_law_refused : He.DefD := ⟨("_law_refused", none), "_law_refused", "_law_refused", defArgs s_law_refused, defBody s_law_refused, defScope s_law_refused, [], []⟩
def dd_law_below : He.DefD := ⟨("_law_below", none), "_law_below", "_law_below", defArgs s_law_below, defBody s_law_below, defScope s_law_below, [], []⟩
def dd_law_pairs : He.DefD := ⟨("_law_pairs", none), "_law_pairs", "_law_pairs", defArgs s_law_pairs, defBody s_law_pairs, defScope s_law_pairs, [], []⟩
def dd_law_keeps : He.DefD := ⟨("_law_keeps", none), "_law_keeps", "_law_keeps", defArgs s_law_keeps, defBody s_law_keeps, defScope s_law_keeps, [], []⟩
def dd_law_holds : He.DefD := ⟨("_law_holds", none), "_law_holds", "_law_holds", defArgs s_law_holds, defBody s_law_holds, defScope s_law_holds, [], []⟩
def dd_law_refuses : He.DefD := ⟨("_law_refuses", none), "_law_refuses", "_law_refuses", defArgs s_law_refuses, defBody s_law_refuses, defScope s_law_refuses, [], []⟩
def dd_law : He.DefD := ⟨("law", none), "law", "law", defArgs s_law, defBody s_law, defScope s_law, [], []⟩
def dd_InvalidNumber_init : DefS := ⟨("InvalidNumber", some "__init__"), "__init__", "InvalidNumber.__init__", defArgs s_InvalidNumber_init, defBody s_InvalidNumber_init, defScope s_InvalidNumber_init, "InvalidNumber"⟩
def dd_BlockTariff_init : DefS := ⟨("BlockTariff", some "__init__"), "__init__", "BlockTariff.__init__", defArgs s_BlockTariff_init, defBody s_BlockTariff_init, defScope s_BlockTariff_init, "BlockTariff"⟩
def dd_BlockTariff_price_of : DefS := ⟨("BlockTariff", some "price_of"), "price_of", "BlockTariff.price_of", defArgs s_BlockTariff_price_of, defBody s_BlockTariff_price_of, defScope s_BlockTariff_price_of, "BlockTariff"⟩
def dd_FreeTariff_init : DefS := ⟨("FreeTariff", some "__init__"), "__init__", "FreeTariff.__init__", defArgs s_FreeTariff_init, defBody s_FreeTariff_init, defScope s_FreeTariff_init, "FreeTariff"⟩
def dd_FreeTariff_price_of : DefS := ⟨("FreeTariff", some "price_of"), "price_of", "FreeTariff.price_of", defArgs s_FreeTariff_price_of, defBody s_FreeTariff_price_of, defScope s_FreeTariff_price_of, "FreeTariff"⟩
def fn : List He.DefD := [dd_is_integer, dd_is_within, dd_check_number, dd_Tariff_init, dd_Tariff_price_of, dd_Tariff_call, dd_law_bag, dd_law_take, dd_law_number, dd_law_wrong, dd_law_blocks, dd_law_plan, dd_law_made, dd_law_units, dd_law_price, dd_law_fault, dd_law_bent, dd_law_is, dd_law_same, dd_law_refused, dd_law_below, dd_law_pairs, dd_law_keeps, dd_law_holds, dd_law_refuses, dd_law]
def fs : List DefS := [dd_InvalidNumber_init, dd_BlockTariff_init, dd_BlockTariff_price_of, dd_FreeTariff_init, dd_FreeTariff_price_of]
def fa : List He.Fa := [.glo "WorksError", .glo "InvalidNumber", .glo "is_integer", .glo "is_within", .glo "check_number", .glo "Tariff", .glo "BlockTariff", .glo "FreeTariff", .glo "_law_bag", .glo "_law_take", .glo "_law_number", .glo "_law_wrong", .glo "_law_blocks", .glo "_law_plan", .glo "_law_made", .glo "_law_units", .glo "_law_price", .glo "_law_fault", .glo "_law_bent", .glo "_law_is", .glo "_law_same", .glo "_law_refused", .glo "_law_below", .glo "_law_pairs", .glo "_law_keeps", .glo "_law_holds", .glo "_law_refuses", .glo "law", .int "GREATEST" 9999, .free "ValueError", .free "abs", .free "all", .free "bool", .free "int", .free "isinstance", .free "len", .free "list", .free "max", .free "range", .free "super", .free "tuple", .cls "Tariff", .mkr "Tariff", .meth "Tariff" "price_of", .meth "Tariff" "__call__", .noat "Tariff" "rate", .cls "BlockTariff", .mkr "BlockTariff", .meth "BlockTariff" "price_of", .meth "BlockTariff" "__call__", .noat "BlockTariff" "blocks", .noat "BlockTariff" "rate", .cls "FreeTariff", .mkr "FreeTariff", .meth "FreeTariff" "price_of", .meth "FreeTariff" "__call__", .noat "FreeTariff" "blocks", .noat "FreeTariff" "free", .noat "FreeTariff" "rate"]
def bx_opq (K : Fg) : Bool := decide (PySem.W.nsIn K cStatics "thirdparty.any" = some none)
def bx_err (K : Fg) : Bool := errB K (He.ga K "InvalidNumber") (He.ma K (He.ga K "InvalidNumber") "__init__")
def bx_nonum (K : Fg) : Bool := decide (PySem.W.findIn K (.ref (He.ga K "InvalidNumber")) "number" = some none)
def bx_xin (K : Fg) : Bool := decide (PySem.W.exmOne K (.ref (He.ga K "InvalidNumber")) (.ref (He.ga K "InvalidNumber")) = some true)
def bx_iwe (K : Fg) : Bool := decide (PySem.W.kitOne K (.ref (He.ga K "InvalidNumber")) (.ref (He.ga K "WorksError")) = some true)
def bx_ive (K : Fg) : Bool := decide (PySem.W.kitOne K (.ref (He.ga K "InvalidNumber")) (.type "ValueError") = some true)
def bx_sBB_init (K : Fg) : Bool := supToB K (He.ga K "BlockTariff") (He.ga K "BlockTariff") "__init__" (He.ma K (He.ga K "Tariff") "__init__")
def bx_sBF_init (K : Fg) : Bool := supToB K (He.ga K "BlockTariff") (He.ga K "FreeTariff") "__init__" (He.ma K (He.ga K "Tariff") "__init__")
def bx_sFF_init (K : Fg) : Bool := supToB K (He.ga K "FreeTariff") (He.ga K "FreeTariff") "__init__" (He.ma K (He.ga K "BlockTariff") "__init__")
def bx_sBB_price_of (K : Fg) : Bool := supToB K (He.ga K "BlockTariff") (He.ga K "BlockTariff") "price_of" (He.ma K (He.ga K "Tariff") "price_of")
def bx_sBF_price_of (K : Fg) : Bool := supToB K (He.ga K "BlockTariff") (He.ga K "FreeTariff") "price_of" (He.ma K (He.ga K "Tariff") "price_of")
def bx_sFF_price_of (K : Fg) : Bool := supToB K (He.ga K "FreeTariff") (He.ga K "FreeTariff") "price_of" (He.ma K (He.ga K "BlockTariff") "price_of")
def bx_fT_init (K : Fg) : Bool := fnB K (He.ma K (He.ga K "Tariff") "__init__")
def bx_fB_init (K : Fg) : Bool := fnB K (He.ma K (He.ga K "BlockTariff") "__init__")
def bx_fT_price_of (K : Fg) : Bool := fnB K (He.ma K (He.ga K "Tariff") "price_of")
def bx_fB_price_of (K : Fg) : Bool := fnB K (He.ma K (He.ga K "BlockTariff") "price_of")
def bx_callB (K : Fg) : Bool := decide ((He.ma K (He.ga K "BlockTariff") "__call__") = (He.ma K (He.ga K "Tariff") "__call__"))
def bx_callF (K : Fg) : Bool := decide ((He.ma K (He.ga K "FreeTariff") "__call__") = (He.ma K (He.ga K "Tariff") "__call__"))
def bx_haT (K : Fg) : Bool := decide (PySem.W.findIn K (.ref (He.ga K "Tariff")) "__class__" = some (some (.builtin "object.__class__")))
def bx_hmT (K : Fg) : Bool := decide (PySem.W.mroIn K (He.ga K "Tariff") (.type "object") = some true)
def bx_kTT (K : Fg) : Bool := decide (PySem.W.kitOne K (.ref (He.ga K "Tariff")) (.ref (He.ga K "Tariff")) = some true)
def bx_kTB (K : Fg) : Bool := decide (PySem.W.kitOne K (.ref (He.ga K "Tariff")) (.ref (He.ga K "BlockTariff")) = some false)
def bx_kTF (K : Fg) : Bool := decide (PySem.W.kitOne K (.ref (He.ga K "Tariff")) (.ref (He.ga K "FreeTariff")) = some false)
def bx_haB (K : Fg) : Bool := decide (PySem.W.findIn K (.ref (He.ga K "BlockTariff")) "__class__" = some (some (.builtin "object.__class__")))
def bx_hmB (K : Fg) : Bool := decide (PySem.W.mroIn K (He.ga K "BlockTariff") (.type "object") = some true)
def bx_kBT (K : Fg) : Bool := decide (PySem.W.kitOne K (.ref (He.ga K "BlockTariff")) (.ref (He.ga K "Tariff")) = some true)
def bx_kBB (K : Fg) : Bool := decide (PySem.W.kitOne K (.ref (He.ga K "BlockTariff")) (.ref (He.ga K "BlockTariff")) = some true)
def bx_kBF (K : Fg) : Bool := decide (PySem.W.kitOne K (.ref (He.ga K "BlockTariff")) (.ref (He.ga K "FreeTariff")) = some false)
def bx_haF (K : Fg) : Bool := decide (PySem.W.findIn K (.ref (He.ga K "FreeTariff")) "__class__" = some (some (.builtin "object.__class__")))
def bx_hmF (K : Fg) : Bool := decide (PySem.W.mroIn K (He.ga K "FreeTariff") (.type "object") = some true)
def bx_kFT (K : Fg) : Bool := decide (PySem.W.kitOne K (.ref (He.ga K "FreeTariff")) (.ref (He.ga K "Tariff")) = some true)
def bx_kFB (K : Fg) : Bool := decide (PySem.W.kitOne K (.ref (He.ga K "FreeTariff")) (.ref (He.ga K "BlockTariff")) = some true)
def bx_kFF (K : Fg) : Bool := decide (PySem.W.kitOne K (.ref (He.ga K "FreeTariff")) (.ref (He.ga K "FreeTariff")) = some true)
def bx_hn (K : Fg) : Bool := decide (PySem.W.specialIn K (.builtin "object.__class__") "__get__" = some (some (.builtin "getset_descriptor.__get__")))
def bx_ht (K : Fg) : Bool := decide (PySem.W.takesIn K (.builtin "object.__class__") = some true)
def bx_fT_call (K : Fg) : Bool := fnB K (He.ma K (He.ga K "Tariff") "__call__")
def exl : List (Fg → Bool) := [bx_opq, bx_err, bx_nonum, bx_xin, bx_iwe, bx_ive, bx_sBB_init, bx_sBF_init, bx_sFF_init, bx_sBB_price_of, bx_sBF_price_of, bx_sFF_price_of, bx_fT_init, bx_fB_init, bx_fT_price_of, bx_fB_price_of, bx_callB, bx_callF, bx_haT, bx_hmT, bx_kTT, bx_kTB, bx_kTF, bx_haB, bx_hmB, bx_kBT, bx_kBB, bx_kBF, bx_haF, bx_hmF, bx_kFT, bx_kFB, bx_kFF, bx_hn, bx_ht, bx_fT_call]
def exB (K : Fg) : Bool := exl.all fun b => b K
structure Txt (K : Fg) (mg : Str → Option Value) : Prop where
  c : SaysS fa fn fs pw.main.file exB K
  g : ∀ (i : Nat) (x : Str), fa[i]? = some (.glo x) → mg x = some (.ref (He.ga K x))
  f : ∀ (i : Nat) (x : Str), fa[i]? = some (.free x) → mg x = none
  n : ∀ (i : Nat) (x : Str) (z : Int), fa[i]? = some (.int x z) → ∃ t, mg x = some (.int z t)
  s : ∀ (i : Nat) (x z : Str), fa[i]? = some (.str x z) → ∃ t, mg x = some (.str z t)
section
variable {K : Fg} {mg : Str → Option Value}
theorem Txt.x_opq (T : Txt K mg) : PySem.W.nsIn K cStatics "thirdparty.any" = some none := (fun h => of_decide_eq_true h) (show bx_opq K = true from List.all_eq_true.mp T.c.e _ (List.mem_of_getElem? (i := 0) rfl))
theorem Txt.x_err (T : Txt K mg) : ErrC K (He.ga K "InvalidNumber") (He.ma K (He.ga K "InvalidNumber") "__init__") := (fun h => errB_ok h) (show bx_err K = true from List.all_eq_true.mp T.c.e _ (List.mem_of_getElem? (i := 1) rfl))
theorem Txt.x_nonum (T : Txt K mg) : PySem.W.findIn K (.ref (He.ga K "InvalidNumber")) "number" = some none := (fun h => of_decide_eq_true h) (show bx_nonum K = true from List.all_eq_true.mp T.c.e _ (List.mem_of_getElem? (i := 2) rfl))
theorem Txt.x_xin (T : Txt K mg) : PySem.W.exmOne K (.ref (He.ga K "InvalidNumber")) (.ref (He.ga K "InvalidNumber")) = some true := (fun h => of_decide_eq_true h) (show bx_xin K = true from List.all_eq_true.mp T.c.e _ (List.mem_of_getElem? (i := 3) rfl))
theorem Txt.x_iwe (T : Txt K mg) : PySem.W.kitOne K (.ref (He.ga K "InvalidNumber")) (.ref (He.ga K "WorksError")) = some true := (fun h => of_decide_eq_true h) (show bx_iwe K = true from List.all_eq_true.mp T.c.e _ (List.mem_of_getElem? (i := 4) rfl))
theorem Txt.x_ive (T : Txt K mg) : PySem.W.kitOne K (.ref (He.ga K "InvalidNumber")) (.type "ValueError") = some true := (fun h => of_decide_eq_true h) (show bx_ive K = true from List.all_eq_true.mp T.c.e _ (List.mem_of_getElem? (i := 5) rfl))
theorem Txt.x_sBB_init (T : Txt K mg) : SupTo K (He.ga K "BlockTariff") (He.ga K "BlockTariff") "__init__" (He.ma K (He.ga K "Tariff") "__init__") := (fun h => supToB_ok h) (show bx_sBB_init K = true from List.all_eq_true.mp T.c.e _ (List.mem_of_getElem? (i := 6) rfl))
theorem Txt.x_sBF_init (T : Txt K mg) : SupTo K (He.ga K "BlockTariff") (He.ga K "FreeTariff") "__init__" (He.ma K (He.ga K "Tariff") "__init__") := (fun h => supToB_ok h) (show bx_sBF_init K = true from List.all_eq_true.mp T.c.e _ (List.mem_of_getElem? (i := 7) rfl))
theorem Txt.x_sFF_init (T : Txt K mg) : SupTo K (He.ga K "FreeTariff") (He.ga K "FreeTariff") "__init__" (He.ma K (He.ga K "BlockTariff") "__init__") := (fun h => supToB_ok h) (show bx_sFF_init K = true from List.all_eq_true.mp T.c.e _ (List.mem_of_getElem? (i := 8) rfl))
theorem Txt.x_sBB_price_of (T : Txt K mg) : SupTo K (He.ga K "BlockTariff") (He.ga K "BlockTariff") "price_of" (He.ma K (He.ga K "Tariff") "price_of") := (fun h => supToB_ok h) (show bx_sBB_price_of K = true from List.all_eq_true.mp T.c.e _ (List.mem_of_getElem? (i := 9) rfl))
theorem Txt.x_sBF_price_of (T : Txt K mg) : SupTo K (He.ga K "BlockTariff") (He.ga K "FreeTariff") "price_of" (He.ma K (He.ga K "Tariff") "price_of") := (fun h => supToB_ok h) (show bx_sBF_price_of K = true from List.all_eq_true.mp T.c.e _ (List.mem_of_getElem? (i := 10) rfl))
theorem Txt.x_sFF_price_of (T : Txt K mg) : SupTo K (He.ga K "FreeTariff") (He.ga K "FreeTariff") "price_of" (He.ma K (He.ga K "BlockTariff") "price_of") := (fun h => supToB_ok h) (show bx_sFF_price_of K = true from List.all_eq_true.mp T.c.e _ (List.mem_of_getElem? (i := 11) rfl))
theorem Txt.x_fT_init (T : Txt K mg) : FnA K (He.ma K (He.ga K "Tariff") "__init__") := (fun h => fnB_ok h) (show bx_fT_init K = true from List.all_eq_true.mp T.c.e _ (List.mem_of_getElem? (i := 12) rfl))
theorem Txt.x_fB_init (T : Txt K mg) : FnA K (He.ma K (He.ga K "BlockTariff") "__init__") := (fun h => fnB_ok h) (show bx_fB_init K = true from List.all_eq_true.mp T.c.e _ (List.mem_of_getElem? (i := 13) rfl))
theorem Txt.x_fT_price_of (T : Txt K mg) : FnA K (He.ma K (He.ga K "Tariff") "price_of") := (fun h => fnB_ok h) (show bx_fT_price_of K = true from List.all_eq_true.mp T.c.e _ (List.mem_of_getElem? (i := 14) rfl))
theorem Txt.x_fB_price_of (T : Txt K mg) : FnA K (He.ma K (He.ga K "BlockTariff") "price_of") := (fun h => fnB_ok h) (show bx_fB_price_of K = true from List.all_eq_true.mp T.c.e _ (List.mem_of_getElem? (i := 15) rfl))
theorem Txt.x_callB (T : Txt K mg) : (He.ma K (He.ga K "BlockTariff") "__call__") = (He.ma K (He.ga K "Tariff") "__call__") := (fun h => of_decide_eq_true h) (show bx_callB K = true from List.all_eq_true.mp T.c.e _ (List.mem_of_getElem? (i := 16) rfl))
theorem Txt.x_callF (T : Txt K mg) : (He.ma K (He.ga K "FreeTariff") "__call__") = (He.ma K (He.ga K "Tariff") "__call__") := (fun h => of_decide_eq_true h) (show bx_callF K = true from List.all_eq_true.mp T.c.e _ (List.mem_of_getElem? (i := 17) rfl))
theorem Txt.x_haT (T : Txt K mg) : PySem.W.findIn K (.ref (He.ga K "Tariff")) "__class__" = some (some (.builtin "object.__class__")) := (fun h => of_decide_eq_true h) (show bx_haT K = true from List.all_eq_true.mp T.c.e _ (List.mem_of_getElem? (i := 18) rfl))
theorem Txt.x_hmT (T : Txt K mg) : PySem.W.mroIn K (He.ga K "Tariff") (.type "object") = some true := (fun h => of_decide_eq_true h) (show bx_hmT K = true from List.all_eq_true.mp T.c.e _ (List.mem_of_getElem? (i := 19) rfl))
theorem Txt.x_kTT (T : Txt K mg) : PySem.W.kitOne K (.ref (He.ga K "Tariff")) (.ref (He.ga K "Tariff")) = some true := (fun h => of_decide_eq_true h) (show bx_kTT K = true from List.all_eq_true.mp T.c.e _ (List.mem_of_getElem? (i := 20) rfl))
theorem Txt.x_kTB (T : Txt K mg) : PySem.W.kitOne K (.ref (He.ga K "Tariff")) (.ref (He.ga K "BlockTariff")) = some false := (fun h => of_decide_eq_true h) (show bx_kTB K = true from List.all_eq_true.mp T.c.e _ (List.mem_of_getElem? (i := 21) rfl))
theorem Txt.x_kTF (T : Txt K mg) : PySem.W.kitOne K (.ref (He.ga K "Tariff")) (.ref (He.ga K "FreeTariff")) = some false := (fun h => of_decide_eq_true h) (show bx_kTF K = true from List.all_eq_true.mp T.c.e _ (List.mem_of_getElem? (i := 22) rfl))
theorem Txt.x_haB (T : Txt K mg) : PySem.W.findIn K (.ref (He.ga K "BlockTariff")) "__class__" = some (some (.builtin "object.__class__")) := (fun h => of_decide_eq_true h) (show bx_haB K = true from List.all_eq_true.mp T.c.e _ (List.mem_of_getElem? (i := 23) rfl))
theorem Txt.x_hmB (T : Txt K mg) : PySem.W.mroIn K (He.ga K "BlockTariff") (.type "object") = some true := (fun h => of_decide_eq_true h) (show bx_hmB K = true from List.all_eq_true.mp T.c.e _ (List.mem_of_getElem? (i := 24) rfl))
theorem Txt.x_kBT (T : Txt K mg) : PySem.W.kitOne K (.ref (He.ga K "BlockTariff")) (.ref (He.ga K "Tariff")) = some true := (fun h => of_decide_eq_true h) (show bx_kBT K = true from List.all_eq_true.mp T.c.e _ (List.mem_of_getElem? (i := 25) rfl))
theorem Txt.x_kBB (T : Txt K mg) : PySem.W.kitOne K (.ref (He.ga K "BlockTariff")) (.ref (He.ga K "BlockTariff")) = some true := (fun h => of_decide_eq_true h) (show bx_kBB K = true from List.all_eq_true.mp T.c.e _ (List.mem_of_getElem? (i := 26) rfl))
theorem Txt.x_kBF (T : Txt K mg) : PySem.W.kitOne K (.ref (He.ga K "BlockTariff")) (.ref (He.ga K "FreeTariff")) = some false := (fun h => of_decide_eq_true h) (show bx_kBF K = true from List.all_eq_true.mp T.c.e _ (List.mem_of_getElem? (i := 27) rfl))
theorem Txt.x_haF (T : Txt K mg) : PySem.W.findIn K (.ref (He.ga K "FreeTariff")) "__class__" = some (some (.builtin "object.__class__")) := (fun h => of_decide_eq_true h) (show bx_haF K = true from List.all_eq_true.mp T.c.e _ (List.mem_of_getElem? (i := 28) rfl))
theorem Txt.x_hmF (T : Txt K mg) : PySem.W.mroIn K (He.ga K "FreeTariff") (.type "object") = some true := (fun h => of_decide_eq_true h) (show bx_hmF K = true from List.all_eq_true.mp T.c.e _ (List.mem_of_getElem? (i := 29) rfl))
theorem Txt.x_kFT (T : Txt K mg) : PySem.W.kitOne K (.ref (He.ga K "FreeTariff")) (.ref (He.ga K "Tariff")) = some true := (fun h => of_decide_eq_true h) (show bx_kFT K = true from List.all_eq_true.mp T.c.e _ (List.mem_of_getElem? (i := 30) rfl))
theorem Txt.x_kFB (T : Txt K mg) : PySem.W.kitOne K (.ref (He.ga K "FreeTariff")) (.ref (He.ga K "BlockTariff")) = some true := (fun h => of_decide_eq_true h) (show bx_kFB K = true from List.all_eq_true.mp T.c.e _ (List.mem_of_getElem? (i := 31) rfl))
theorem Txt.x_kFF (T : Txt K mg) : PySem.W.kitOne K (.ref (He.ga K "FreeTariff")) (.ref (He.ga K "FreeTariff")) = some true := (fun h => of_decide_eq_true h) (show bx_kFF K = true from List.all_eq_true.mp T.c.e _ (List.mem_of_getElem? (i := 32) rfl))
theorem Txt.x_hn (T : Txt K mg) : PySem.W.specialIn K (.builtin "object.__class__") "__get__" = some (some (.builtin "getset_descriptor.__get__")) := (fun h => of_decide_eq_true h) (show bx_hn K = true from List.all_eq_true.mp T.c.e _ (List.mem_of_getElem? (i := 33) rfl))
theorem Txt.x_ht (T : Txt K mg) : PySem.W.takesIn K (.builtin "object.__class__") = some true := (fun h => of_decide_eq_true h) (show bx_ht K = true from List.all_eq_true.mp T.c.e _ (List.mem_of_getElem? (i := 34) rfl))
theorem Txt.x_fT_call (T : Txt K mg) : FnA K (He.ma K (He.ga K "Tariff") "__call__") := (fun h => fnB_ok h) (show bx_fT_call K = true from List.all_eq_true.mp T.c.e _ (List.mem_of_getElem? (i := 35) rfl))
theorem Txt.d_is_integer (T : Txt K mg) : ∃ fd, FunD K "is_integer" "is_integer" (defArgs s_is_integer) (defBody s_is_integer) (defScope s_is_integer) [] [] (He.fAd K ("is_integer", none)) fd := T.c.d.def_ 0 (d := dd_is_integer) rfl
theorem Txt.d_is_within (T : Txt K mg) : ∃ fd, FunD K "is_within" "is_within" (defArgs s_is_within) (defBody s_is_within) (defScope s_is_within) [] [] (He.fAd K ("is_within", none)) fd := T.c.d.def_ 1 (d := dd_is_within) rfl
theorem Txt.d_check_number (T : Txt K mg) : ∃ fd, FunD K "check_number" "check_number" (defArgs s_check_number) (defBody s_check_number) (defScope s_check_number) [] [] (He.fAd K ("check_number", none)) fd := T.c.d.def_ 2 (d := dd_check_number) rfl
theorem Txt.d_Tariff_init (T : Txt K mg) : ∃ fd, FunD K "__init__" "Tariff.__init__" (defArgs s_Tariff_init) (defBody s_Tariff_init) (defScope s_Tariff_init) [] [] (He.fAd K ("Tariff", some "__init__")) fd := T.c.d.def_ 3 (d := dd_Tariff_init) rfl
theorem Txt.d_Tariff_price_of (T : Txt K mg) : ∃ fd, FunD K "price_of" "Tariff.price_of" (defArgs s_Tariff_price_of) (defBody s_Tariff_price_of) (defScope s_Tariff_price_of) [] [] (He.fAd K ("Tariff", some "price_of")) fd := T.c.d.def_ 4 (d := dd_Tariff_price_of) rfl
theorem Txt.d_Tariff_call (T : Txt K mg) : ∃ fd, FunD K "__call__" "Tariff.__call__" (defArgs s_Tariff_call) (defBody s_Tariff_call) (defScope s_Tariff_call) [] [] (He.fAd K ("Tariff", some "__call__")) fd := T.c.d.def_ 5 (d := dd_Tariff_call) rfl
theorem Txt.d_law_bag (T : Txt K mg) : ∃ fd, FunD K "_law_bag" "_law_bag" (defArgs s_law_bag) (defBody s_law_bag) (defScope s_law_bag) [] [] (He.fAd K ("_law_bag", none)) fd := T.c.d.def_ 6 (d := dd_law_bag) rfl
theorem Txt.d_law_take (T : Txt K mg) : ∃ fd, FunD K "_law_take" "_law_take" (defArgs s_law_take) (defBody s_law_take) (defScope s_law_take) [] [] (He.fAd K ("_law_take", none)) fd := T.c.d.def_ 7 (d := dd_law_take) rfl
theorem Txt.d_law_number (T : Txt K mg) : ∃ fd, FunD K "_law_number" "_law_number" (defArgs s_law_number) (defBody s_law_number) (defScope s_law_number) [] [] (He.fAd K ("_law_number", none)) fd := T.c.d.def_ 8 (d := dd_law_number) rfl
theorem Txt.d_law_wrong (T : Txt K mg) : ∃ fd, FunD K "_law_wrong" "_law_wrong" (defArgs s_law_wrong) (defBody s_law_wrong) (defScope s_law_wrong) [] [] (He.fAd K ("_law_wrong", none)) fd := T.c.d.def_ 9 (d := dd_law_wrong) rfl
theorem Txt.d_law_blocks (T : Txt K mg) : ∃ fd, FunD K "_law_blocks" "_law_blocks" (defArgs s_law_blocks) (defBody s_law_blocks) (defScope s_law_blocks) [] [] (He.fAd K ("_law_blocks", none)) fd := T.c.d.def_ 10 (d := dd_law_blocks) rfl
theorem Txt.d_law_plan (T : Txt K mg) : ∃ fd, FunD K "_law_plan" "_law_plan" (defArgs s_law_plan) (defBody s_law_plan) (defScope s_law_plan) [] [] (He.fAd K ("_law_plan", none)) fd := T.c.d.def_ 11 (d := dd_law_plan) rfl
theorem Txt.d_law_made (T : Txt K mg) : ∃ fd, FunD K "_law_made" "_law_made" (defArgs s_law_made) (defBody s_law_made) (defScope s_law_made) [] [] (He.fAd K ("_law_made", none)) fd := T.c.d.def_ 12 (d := dd_law_made) rfl
theorem Txt.d_law_units (T : Txt K mg) : ∃ fd, FunD K "_law_units" "_law_units" (defArgs s_law_units) (defBody s_law_units) (defScope s_law_units) [] [] (He.fAd K ("_law_units", none)) fd := T.c.d.def_ 13 (d := dd_law_units) rfl
theorem Txt.d_law_price (T : Txt K mg) : ∃ fd, FunD K "_law_price" "_law_price" (defArgs s_law_price) (defBody s_law_price) (defScope s_law_price) [] [] (He.fAd K ("_law_price", none)) fd := T.c.d.def_ 14 (d := dd_law_price) rfl
theorem Txt.d_law_fault (T : Txt K mg) : ∃ fd, FunD K "_law_fault" "_law_fault" (defArgs s_law_fault) (defBody s_law_fault) (defScope s_law_fault) [] [] (He.fAd K ("_law_fault", none)) fd := T.c.d.def_ 15 (d := dd_law_fault) rfl
theorem Txt.d_law_bent (T : Txt K mg) : ∃ fd, FunD K "_law_bent" "_law_bent" (defArgs s_law_bent) (defBody s_law_bent) (defScope s_law_bent) [] [] (He.fAd K ("_law_bent", none)) fd := T.c.d.def_ 16 (d := dd_law_bent) rfl
theorem Txt.d_law_is (T : Txt K mg) : ∃ fd, FunD K "_law_is" "_law_is" (defArgs s_law_is) (defBody s_law_is) (defScope s_law_is) [] [] (He.fAd K ("_law_is", none)) fd := T.c.d.def_ 17 (d := dd_law_is) rfl
theorem Txt.d_law_same (T : Txt K mg) : ∃ fd, FunD K "_law_same" "_law_same" (defArgs s_law_same) (defBody s_law_same) (defScope s_law_same) [] [] (He.fAd K ("_law_same", none)) fd := T.c.d.def_ 18 (d := dd_law_same) rfl
theorem Txt.d_law_refused (T : Txt K mg) : ∃ fd, FunD K "_law_refused" "_law_refused" (defArgs s_law_refused) (defBody s_law_refused) (defScope s_law_refused) [] [] (He.fAd K ("_law_refused", none)) fd := T.c.d.def_ 19 (d := dd_law_refused) rfl
theorem Txt.d_law_below (T : Txt K mg) : ∃ fd, FunD K "_law_below" "_law_below" (defArgs s_law_below) (defBody s_law_below) (defScope s_law_below) [] [] (He.fAd K ("_law_below", none)) fd := T.c.d.def_ 20 (d := dd_law_below) rfl
theorem Txt.d_law_pairs (T : Txt K mg) : ∃ fd, FunD K "_law_pairs" "_law_pairs" (defArgs s_law_pairs) (defBody s_law_pairs) (defScope s_law_pairs) [] [] (He.fAd K ("_law_pairs", none)) fd := T.c.d.def_ 21 (d := dd_law_pairs) rfl
theorem Txt.d_law_keeps (T : Txt K mg) : ∃ fd, FunD K "_law_keeps" "_law_keeps" (defArgs s_law_keeps) (defBody s_law_keeps) (defScope s_law_keeps) [] [] (He.fAd K ("_law_keeps", none)) fd := T.c.d.def_ 22 (d := dd_law_keeps) rfl
theorem Txt.d_law_holds (T : Txt K mg) : ∃ fd, FunD K "_law_holds" "_law_holds" (defArgs s_law_holds) (defBody s_law_holds) (defScope s_law_holds) [] [] (He.fAd K ("_law_holds", none)) fd := T.c.d.def_ 23 (d := dd_law_holds) rfl
theorem Txt.d_law_refuses (T : Txt K mg) : ∃ fd, FunD K "_law_refuses" "_law_refuses" (defArgs s_law_refuses) (defBody s_law_refuses) (defScope s_law_refuses) [] [] (He.fAd K ("_law_refuses", none)) fd := T.c.d.def_ 24 (d := dd_law_refuses) rfl
theorem Txt.d_law (T : Txt K mg) : ∃ fd, FunD K "law" "law" (defArgs s_law) (defBody s_law) (defScope s_law) [] [] (He.fAd K ("law", none)) fd := T.c.d.def_ 25 (d := dd_law) rfl
theorem Txt.d_InvalidNumber_init (T : Txt K mg) : ∃ fd, SupD K pw (dd_InvalidNumber_init.nf K) (He.fAd K ("InvalidNumber", some "__init__")) (He.ga K "InvalidNumber") (ccOf K ("InvalidNumber", some "__init__")) fd := T.c.def_ rfl (by rfl) T.x_opq 0 (d := dd_InvalidNumber_init) rfl
theorem Txt.d_BlockTariff_init (T : Txt K mg) : ∃ fd, SupD K pw (dd_BlockTariff_init.nf K) (He.fAd K ("BlockTariff", some "__init__")) (He.ga K "BlockTariff") (ccOf K ("BlockTariff", some "__init__")) fd := T.c.def_ rfl (by rfl) T.x_opq 1 (d := dd_BlockTariff_init) rfl
theorem Txt.d_BlockTariff_price_of (T : Txt K mg) : ∃ fd, SupD K pw (dd_BlockTariff_price_of.nf K) (He.fAd K ("BlockTariff", some "price_of")) (He.ga K "BlockTariff") (ccOf K ("BlockTariff", some "price_of")) fd := T.c.def_ rfl (by rfl) T.x_opq 2 (d := dd_BlockTariff_price_of) rfl
theorem Txt.d_FreeTariff_init (T : Txt K mg) : ∃ fd, SupD K pw (dd_FreeTariff_init.nf K) (He.fAd K ("FreeTariff", some "__init__")) (He.ga K "FreeTariff") (ccOf K ("FreeTariff", some "__init__")) fd := T.c.def_ rfl (by rfl) T.x_opq 3 (d := dd_FreeTariff_init) rfl
theorem Txt.d_FreeTariff_price_of (T : Txt K mg) : ∃ fd, SupD K pw (dd_FreeTariff_price_of.nf K) (He.fAd K ("FreeTariff", some "price_of")) (He.ga K "FreeTariff") (ccOf K ("FreeTariff", some "price_of")) fd := T.c.def_ rfl (by rfl) T.x_opq 4 (d := dd_FreeTariff_price_of) rfl
theorem Txt.g_WorksError (T : Txt K mg) : mg "WorksError" = some (.ref (He.ga K "WorksError")) := T.g 0 _ rfl
theorem Txt.g_InvalidNumber (T : Txt K mg) : mg "InvalidNumber" = some (.ref (He.ga K "InvalidNumber")) := T.g 1 _ rfl
theorem Txt.g_is_integer (T : Txt K mg) : mg "is_integer" = some (.ref (He.ga K "is_integer")) := T.g 2 _ rfl
theorem Txt.g_is_within (T : Txt K mg) : mg "is_within" = some (.ref (He.ga K "is_within")) := T.g 3 _ rfl
theorem Txt.g_check_number (T : Txt K mg) : mg "check_number" = some (.ref (He.ga K "check_number")) := T.g 4 _ rfl
theorem Txt.g_Tariff (T : Txt K mg) : mg "Tariff" = some (.ref (He.ga K "Tariff")) := T.g 5 _ rfl
theorem Txt.g_BlockTariff (T : Txt K mg) : mg "BlockTariff" = some (.ref (He.ga K "BlockTariff")) := T.g 6 _ rfl
theorem Txt.g_FreeTariff (T : Txt K mg) : mg "FreeTariff" = some (.ref (He.ga K "FreeTariff")) := T.g 7 _ rfl
theorem Txt.g_law_bag (T : Txt K mg) : mg "_law_bag" = some (.ref (He.ga K "_law_bag")) := T.g 8 _ rfl
theorem Txt.g_law_take (T : Txt K mg) : mg "_law_take" = some (.ref (He.ga K "_law_take")) := T.g 9 _ rfl
theorem Txt.g_law_number (T : Txt K mg) : mg "_law_number" = some (.ref (He.ga K "_law_number")) := T.g 10 _ rfl
theorem Txt.g_law_wrong (T : Txt K mg) : mg "_law_wrong" = some (.ref (He.ga K "_law_wrong")) := T.g 11 _ rfl
theorem Txt.g_law_blocks (T : Txt K mg) : mg "_law_blocks" = some (.ref (He.ga K "_law_blocks")) := T.g 12 _ rfl
theorem Txt.g_law_plan (T : Txt K mg) : mg "_law_plan" = some (.ref (He.ga K "_law_plan")) := T.g 13 _ rfl
theorem Txt.g_law_made (T : Txt K mg) : mg "_law_made" = some (.ref (He.ga K "_law_made")) := T.g 14 _ rfl
theorem Txt.g_law_units (T : Txt K mg) : mg "_law_units" = some (.ref (He.ga K "_law_units")) := T.g 15 _ rfl
theorem Txt.g_law_price (T : Txt K mg) : mg "_law_price" = some (.ref (He.ga K "_law_price")) := T.g 16 _ rfl
theorem Txt.g_law_fault (T : Txt K mg) : mg "_law_fault" = some (.ref (He.ga K "_law_fault")) := T.g 17 _ rfl
theorem Txt.g_law_bent (T : Txt K mg) : mg "_law_bent" = some (.ref (He.ga K "_law_bent")) := T.g 18 _ rfl
theorem Txt.g_law_is (T : Txt K mg) : mg "_law_is" = some (.ref (He.ga K "_law_is")) := T.g 19 _ rfl
theorem Txt.g_law_same (T : Txt K mg) : mg "_law_same" = some (.ref (He.ga K "_law_same")) := T.g 20 _ rfl
theorem Txt.g_law_refused (T : Txt K mg) : mg "_law_refused" = some (.ref (He.ga K "_law_refused")) := T.g 21 _ rfl
theorem Txt.g_law_below (T : Txt K mg) : mg "_law_below" = some (.ref (He.ga K "_law_below")) := T.g 22 _ rfl
theorem Txt.g_law_pairs (T : Txt K mg) : mg "_law_pairs" = some (.ref (He.ga K "_law_pairs")) := T.g 23 _ rfl
theorem Txt.g_law_keeps (T : Txt K mg) : mg "_law_keeps" = some (.ref (He.ga K "_law_keeps")) := T.g 24 _ rfl
theorem Txt.g_law_holds (T : Txt K mg) : mg "_law_holds" = some (.ref (He.ga K "_law_holds")) := T.g 25 _ rfl
theorem Txt.g_law_refuses (T : Txt K mg) : mg "_law_refuses" = some (.ref (He.ga K "_law_refuses")) := T.g 26 _ rfl
theorem Txt.g_law (T : Txt K mg) : mg "law" = some (.ref (He.ga K "law")) := T.g 27 _ rfl
theorem Txt.i_GREATEST (T : Txt K mg) : ∃ t, mg "GREATEST" = some (.int 9999 t) := T.n 28 _ _ rfl
theorem Txt.f_ValueError (T : Txt K mg) : mg "ValueError" = none := T.f 29 _ rfl
theorem Txt.f_abs (T : Txt K mg) : mg "abs" = none := T.f 30 _ rfl
theorem Txt.f_all (T : Txt K mg) : mg "all" = none := T.f 31 _ rfl
theorem Txt.f_bool (T : Txt K mg) : mg "bool" = none := T.f 32 _ rfl
theorem Txt.f_int (T : Txt K mg) : mg "int" = none := T.f 33 _ rfl
theorem Txt.f_isinstance (T : Txt K mg) : mg "isinstance" = none := T.f 34 _ rfl
theorem Txt.f_len (T : Txt K mg) : mg "len" = none := T.f 35 _ rfl
theorem Txt.f_list (T : Txt K mg) : mg "list" = none := T.f 36 _ rfl
theorem Txt.f_max (T : Txt K mg) : mg "max" = none := T.f 37 _ rfl
theorem Txt.f_range (T : Txt K mg) : mg "range" = none := T.f 38 _ rfl
theorem Txt.f_super (T : Txt K mg) : mg "super" = none := T.f 39 _ rfl
theorem Txt.f_tuple (T : Txt K mg) : mg "tuple" = none := T.f 40 _ rfl
theorem Txt.c_Tariff (T : Txt K mg) : Cls K (He.ga K "Tariff") := He.cls_ok (T.c.d.fact 41 (f := .cls "Tariff") rfl)
theorem Txt.mk_Tariff (T : Txt K mg) : Mk K (He.ga K "Tariff") (He.ma K (He.ga K "Tariff") "__init__") := He.mkr_ok (T.c.d.fact 42 (f := .mkr "Tariff") rfl)
theorem Txt.m_Tariff_price_of (T : Txt K mg) : Meth K (He.ga K "Tariff") "price_of" (He.ma K (He.ga K "Tariff") "price_of") := He.meth_ok (T.c.d.fact 43 (f := .meth "Tariff" "price_of") rfl)
theorem Txt.m_Tariff_call (T : Txt K mg) : Meth K (He.ga K "Tariff") "__call__" (He.ma K (He.ga K "Tariff") "__call__") := He.meth_ok (T.c.d.fact 44 (f := .meth "Tariff" "__call__") rfl)
theorem Txt.n_Tariff_rate (T : Txt K mg) : NoAttr K (He.ga K "Tariff") "rate" := He.noat_ok (T.c.d.fact 45 (f := .noat "Tariff" "rate") rfl)
theorem Txt.c_BlockTariff (T : Txt K mg) : Cls K (He.ga K "BlockTariff") := He.cls_ok (T.c.d.fact 46 (f := .cls "BlockTariff") rfl)
theorem Txt.mk_BlockTariff (T : Txt K mg) : Mk K (He.ga K "BlockTariff") (He.ma K (He.ga K "BlockTariff") "__init__") := He.mkr_ok (T.c.d.fact 47 (f := .mkr "BlockTariff") rfl)
theorem Txt.m_BlockTariff_price_of (T : Txt K mg) : Meth K (He.ga K "BlockTariff") "price_of" (He.ma K (He.ga K "BlockTariff") "price_of") := He.meth_ok (T.c.d.fact 48 (f := .meth "BlockTariff" "price_of") rfl)
theorem Txt.m_BlockTariff_call (T : Txt K mg) : Meth K (He.ga K "BlockTariff") "__call__" (He.ma K (He.ga K "BlockTariff") "__call__") := He.meth_ok (T.c.d.fact 49 (f := .meth "BlockTariff" "__call__") rfl)
theorem Txt.n_BlockTariff_blocks (T : Txt K mg) : NoAttr K (He.ga K "BlockTariff") "blocks" := He.noat_ok (T.c.d.fact 50 (f := .noat "BlockTariff" "blocks") rfl)
theorem Txt.n_BlockTariff_rate (T : Txt K mg) : NoAttr K (He.ga K "BlockTariff") "rate" := He.noat_ok (T.c.d.fact 51 (f := .noat "BlockTariff" "rate") rfl)
theorem Txt.c_FreeTariff (T : Txt K mg) : Cls K (He.ga K "FreeTariff") := He.cls_ok (T.c.d.fact 52 (f := .cls "FreeTariff") rfl)
theorem Txt.mk_FreeTariff (T : Txt K mg) : Mk K (He.ga K "FreeTariff") (He.ma K (He.ga K "FreeTariff") "__init__") := He.mkr_ok (T.c.d.fact 53 (f := .mkr "FreeTariff") rfl)
theorem Txt.m_FreeTariff_price_of (T : Txt K mg) : Meth K (He.ga K "FreeTariff") "price_of" (He.ma K (He.ga K "FreeTariff") "price_of") := He.meth_ok (T.c.d.fact 54 (f := .meth "FreeTariff" "price_of") rfl)
theorem Txt.m_FreeTariff_call (T : Txt K mg) : Meth K (He.ga K "FreeTariff") "__call__" (He.ma K (He.ga K "FreeTariff") "__call__") := He.meth_ok (T.c.d.fact 55 (f := .meth "FreeTariff" "__call__") rfl)
theorem Txt.n_FreeTariff_blocks (T : Txt K mg) : NoAttr K (He.ga K "FreeTariff") "blocks" := He.noat_ok (T.c.d.fact 56 (f := .noat "FreeTariff" "blocks") rfl)
theorem Txt.n_FreeTariff_free (T : Txt K mg) : NoAttr K (He.ga K "FreeTariff") "free" := He.noat_ok (T.c.d.fact 57 (f := .noat "FreeTariff" "free") rfl)
theorem Txt.n_FreeTariff_rate (T : Txt K mg) : NoAttr K (He.ga K "FreeTariff") "rate" := He.noat_ok (T.c.d.fact 58 (f := .noat "FreeTariff" "rate") rfl)
theorem Txt.of {h : Heap} (X : K.In h) (G : h.Ns mainGlobals mg) (c : SaysS fa fn fs pw.main.file exB K) : Txt K mg := ⟨c, fun i x q => He.glo_ok X G (c.d.fact i q), fun i x q => He.free_ok X G (c.d.fact i q), fun i x z q => He.int_ok X G (c.d.fact i q), fun i x z q => He.str_ok X G (c.d.fact i q)⟩
end
abbrev R : PySem.W.OpenRow := PySem.W.OpenLaw.row PySem.Challenge.rw_valvewise_k30_tariffs
abbrev hk : PySem.W.Hook := hookS 5 fa fn fs pw.main.file exB
def ob (s : PySem.W.SharedT) : AlS := obsS 5 fa fn fs pw.main.file exB (HandSHeadRun.getT s)
theorem ob_eq (s : PySem.W.SharedT) : ob s = hk.obs s.abs := obsS_eq (HandSHeadRun.getT_eq s)
abbrev loose : List PySem.Str := ["WorksError", "InvalidNumber", "is_integer", "is_within", "GREATEST", "check_number", "Tariff", "BlockTariff", "FreeTariff", "_law_bag", "_law_take", "_law_number", "_law_wrong", "_law_blocks", "_law_plan", "_law_made", "_law_units", "_law_price", "_law_fault", "_law_bent", "_law_is", "_law_same", "_law_refused", "_law_below", "_law_pairs", "_law_keeps", "_law_holds", "_law_refuses"]
theorem run (w : World) : HandSHeadRun.RunEq R (PySem.W.view R.prog [32]) hk ob 4000 loose w := by
  intro os
  kernel_rfl
end K30

set_option Elab.async false
set_option linter.all false
set_option maxRecDepth 100000
set_option maxHeartbeats 1000000
set_option autoImplicit false
namespace K30
open PySem PySem.Spec PyProof.Rows L2 Ty NdefX
/-! ### promises, tariffs -/
structure Ok (P : Program) (w : World) (K : Fg) (mg : Str → Option Value) (base : Heap) (nm : Str) (f : Addr) (k : Nat) (ps : List Str) (sp : Sp) : Prop where
  ex : ∃ fd, FnOk P w K mg base (L2.CX P w) k f fd ps sp ∧ Binds K fd ps []
  kp : PySem.W.keepIn K (.ref f) = true
  gm : mg nm = some (.ref f)
structure OkM (P : Program) (w : World) (K : Fg) (mg : Str → Option Value) (base : Heap) (f : Addr) (k : Nat) (ps : List Str) (sp : Sp) : Prop where
  ex : ∃ fd, FnOk P w K mg base (L2.CX P w) k f fd ps sp ∧ Binds K fd ps []
structure Tf where
  kind : Int
  rate : Int
  blocks : List (Int × Int)
  free : Int
instance : Nonempty Tf := ⟨⟨0, 0, [], 0⟩⟩
abbrev Pl := X4 Int Int (Tu (Int × Int)) Int
abbrev rpPl : Rp Pl := rpX4 (i0 := rpI) (i1 := rpI) (i2 := rpT (i := rp2 (i := rpI) (j := rpI))) (i3 := rpI)
abbrev aT (K : Fg) : Addr := He.ga K "Tariff"
abbrev aB (K : Fg) : Addr := He.ga K "BlockTariff"
abbrev aF (K : Fg) : Addr := He.ga K "FreeTariff"
def clsT (K : Fg) (m : Tf) : Addr := if m.kind = 0 then aT K else if m.kind = 1 then aB K else aF K
abbrev fR (r : Int) : Str × Fp := ("rate", fld rpI r)
abbrev fBl (bs : List (Int × Int)) : Str × Fp := ("blocks", fld (rpT (i := rp2 (i := rpI) (j := rpI))) ⟨bs⟩)
abbrev fFr (r : Int) : Str × Fp := ("free", fld rpI r)
def fsT (m : Tf) : List (Str × Fp) := if m.kind = 0 then [fR m.rate] else if m.kind = 1 then [fR m.rate, fBl m.blocks] else [fR m.rate, fBl m.blocks, fFr m.free]
abbrev rpTf : Rp Tf := rpIns clsT fsT
theorem fl_hide {K : Fg} {G : Hp} {l : Addr} {us : List V} (h : G l = some (.lst us)) {α : Type} {i : Rp α} [n : NoL α i] {f : Str} {m : α} {vs : List (Str × V)} {ps : List (Str × Fp)} (q : FlAll K G vs ((f, fld i m) :: ps)) (ih : ∀ ws, FlAll K G ws ps → FlAll K (hideH l G) ws ps) : FlAll K (hideH l G) vs ((f, fld i m) :: ps) := by
  cases q with
  | cons a t => exact .cons (fun G' e => i.mono e (n.hide h (a G (Ex.refl _)))) (ih _ t)
theorem fl_nil {K : Fg} {G : Hp} {l : Addr} : ∀ ws, FlAll K G ws [] → FlAll K (hideH l G) ws [] := fun ws q => by
  cases q
  exact .nil
instance : NoL Tf rpTf := ⟨fun {K G v m l us} h r => by
  obtain ⟨a, dx, vs, h1, h2, h3⟩ := r
  refine ⟨a, dx, vs, h1, by rw [hide_ne fun z => by rw [z, h] at h2; cases h2]; exact h2, ?_⟩
  unfold fsT at h3 ⊢
  split
  · rw [if_pos ‹_›] at h3
    exact fl_hide h h3 fl_nil
  · rw [if_neg ‹_›] at h3
    split
    · rw [if_pos ‹_›] at h3
      exact fl_hide h h3 fun _ q => fl_hide h q fl_nil
    · rw [if_neg ‹_›] at h3
      exact fl_hide h h3 fun _ q => fl_hide h q fun _ q => fl_hide h q fl_nil⟩
section
variable {K : Fg} {mg : Str → Option Value}
theorem Txt.neTB (T : Txt K mg) : aT K ≠ aB K := fun z => by
  have h := T.x_kTB
  rw [show He.ga K "Tariff" = He.ga K "BlockTariff" from z] at h
  rw [T.x_kBB] at h
  cases h
theorem Txt.neTF (T : Txt K mg) : aT K ≠ aF K := fun z => by
  have h := T.x_kTF
  rw [show He.ga K "Tariff" = He.ga K "FreeTariff" from z] at h
  rw [T.x_kFF] at h
  cases h
theorem Txt.neBF (T : Txt K mg) : aB K ≠ aF K := fun z => by
  have h := T.x_kBF
  rw [show He.ga K "BlockTariff" = He.ga K "FreeTariff" from z] at h
  rw [T.x_kFF] at h
  cases h
theorem cls0 {m : Tf} (h : m.kind = 0) : clsT K m = aT K := if_pos h
theorem cls1 {m : Tf} (h : m.kind = 1) : clsT K m = aB K := by
  unfold clsT
  rw [if_neg (by omega), if_pos h]
theorem cls2 {m : Tf} (h0 : m.kind ≠ 0) (h : m.kind ≠ 1) : clsT K m = aF K := by
  unfold clsT
  rw [if_neg h0, if_neg h]
theorem kind0 (T : Txt K mg) {m : Tf} (h : clsT K m = aT K) : m.kind = 0 := by
  by_cases h0 : m.kind = 0
  · exact h0
  · by_cases h1 : m.kind = 1
    · rw [cls1 h1] at h
      exact absurd h.symm T.neTB
    · rw [cls2 h0 h1] at h
      exact absurd h.symm T.neTF
theorem kind1 (T : Txt K mg) {m : Tf} (h : clsT K m = aB K) : m.kind = 1 := by
  by_cases h0 : m.kind = 0
  · rw [cls0 h0] at h
    exact absurd h T.neTB
  · by_cases h1 : m.kind = 1
    · exact h1
    · rw [cls2 h0 h1] at h
      exact absurd h.symm T.neBF
theorem kind2 (T : Txt K mg) {m : Tf} (h : clsT K m = aF K) : m.kind ≠ 0 ∧ m.kind ≠ 1 := by
  refine ⟨fun h0 => ?_, fun h1 => ?_⟩
  · rw [cls0 h0] at h
    exact T.neTF h
  · rw [cls1 h1] at h
    exact T.neBF h
/-- what holds of all three classes -/
def okC3 (K : Fg) (C : Addr) : Prop := C = aT K ∨ C = aB K ∨ C = aF K
def okC2 (K : Fg) (C : Addr) : Prop := C = aB K ∨ C = aF K
def okC1 (K : Fg) (C : Addr) : Prop := C = aF K
theorem c3 (T : Txt K mg) {C : Addr} (h : okC3 K C) : Cls K C ∧ NoAttr K C "rate" := by
  rcases h with rfl | rfl | rfl
  · exact ⟨T.c_Tariff, T.n_Tariff_rate⟩
  · exact ⟨T.c_BlockTariff, T.n_BlockTariff_rate⟩
  · exact ⟨T.c_FreeTariff, T.n_FreeTariff_rate⟩
theorem c2 (T : Txt K mg) {C : Addr} (h : okC2 K C) : Cls K C ∧ NoAttr K C "blocks" := by
  rcases h with rfl | rfl
  · exact ⟨T.c_BlockTariff, T.n_BlockTariff_blocks⟩
  · exact ⟨T.c_FreeTariff, T.n_FreeTariff_blocks⟩
theorem c1 (T : Txt K mg) {C : Addr} (h : okC1 K C) : Cls K C ∧ NoAttr K C "free" := by
  have h : C = aF K := h
  subst h
  exact ⟨T.c_FreeTariff, T.n_FreeTariff_free⟩
theorem clsT3 (m : Tf) : okC3 K (clsT K m) := by
  unfold clsT okC3
  split
  · exact .inl rfl
  · split
    · exact .inr (.inl rfl)
    · exact .inr (.inr rfl)
theorem f_rate (m : Tf) (_ : True) : ∃ (l r : List (Str × Fp)), fsT m = l ++ (("rate" : Str), fld rpI m.rate) :: r ∧ ¬ ("rate" : Str) ∈ l.map (·.1) := by
  refine ⟨[], (fsT m).tail, ?_, by simp⟩
  unfold fsT
  split
  · rfl
  · split <;> rfl
theorem f_blocks (m : Tf) (h : m.kind ≠ 0) : ∃ (l r : List (Str × Fp)), fsT m = l ++ (("blocks" : Str), fld (rpT (i := rp2 (i := rpI) (j := rpI))) ⟨m.blocks⟩) :: r ∧ ¬ ("blocks" : Str) ∈ l.map (·.1) := by
  refine ⟨[fR m.rate], (fsT m).tail.tail, ?_, by simp only [List.map]; decide⟩
  unfold fsT
  rw [if_neg h]
  split <;> rfl
theorem f_free (m : Tf) (h : m.kind ≠ 0 ∧ m.kind ≠ 1) : ∃ (l r : List (Str × Fp)), fsT m = l ++ (("free" : Str), fld rpI m.free) :: r ∧ ¬ ("free" : Str) ∈ l.map (·.1) := by
  refine ⟨[fR m.rate, fBl m.blocks], [], ?_, by simp only [List.map]; decide⟩
  unfold fsT
  rw [if_neg h.1, if_neg h.2]
  rfl
theorem fc_rate (T : Txt K mg) (m : Tf) (_ : True) : Cls K (clsT K m) ∧ NoAttr K (clsT K m) "rate" := c3 T (clsT3 m)
theorem fc_blocks (T : Txt K mg) (m : Tf) (h : m.kind ≠ 0) : Cls K (clsT K m) ∧ NoAttr K (clsT K m) "blocks" := c2 T (by
  unfold clsT okC2
  rw [if_neg h]
  split
  · exact .inl rfl
  · exact .inr rfl)
theorem fc_free (T : Txt K mg) (m : Tf) (h : m.kind ≠ 0 ∧ m.kind ≠ 1) : Cls K (clsT K m) ∧ NoAttr K (clsT K m) "free" := c1 T (cls2 h.1 h.2)
theorem no_meth (m : Tf) : ¬ ("price_of" : Str) ∈ (fsT m).map (·.1) := by
  unfold fsT
  split
  · simp only [List.map]; decide
  · split
    · simp only [List.map]; decide
    · simp only [List.map]; decide
theorem ty_Tf (T : Txt K mg) (G H : Hp) (v : V) (m : Tf) (e : Ex G H) (r : rpTf.rp K G v m) : TyX K H v (.ref (clsT K m)) := by
  obtain ⟨a, dx, vs, rfl, h2, _⟩ := r
  have c := clsT3 (K := K) m
  have key : ∀ C, okC3 K C → PySem.W.findIn K (.ref C) "__class__" = some (some (.builtin "object.__class__")) ∧ PySem.W.mroIn K C (.type "object") = some true := fun C h => by
    rcases h with rfl | rfl | rfl
    · exact ⟨T.x_haT, T.x_hmT⟩
    · exact ⟨T.x_haB, T.x_hmB⟩
    · exact ⟨T.x_haF, T.x_hmF⟩
  obtain ⟨k1, k2⟩ := key _ c
  exact .base (.ins (e _ _ h2) (c3 T c).1 k1 T.x_hn T.x_ht k2)
theorem k_T (T : Txt K mg) (m : Tf) : PySem.W.kitOne K (.ref (clsT K m)) (.ref (aT K)) = some true := by
  rcases clsT3 (K := K) m with h | h | h <;> rw [h]
  · exact T.x_kTT
  · exact T.x_kBT
  · exact T.x_kFT
theorem k_B (T : Txt K mg) (m : Tf) : PySem.W.kitOne K (.ref (clsT K m)) (.ref (aB K)) = some (decide (m.kind ≠ 0)) := by
  by_cases h0 : m.kind = 0
  · rw [cls0 h0, T.x_kTB]
    simp [h0]
  · by_cases h1 : m.kind = 1
    · rw [cls1 h1, T.x_kBB]
      simp [h0]
    · rw [cls2 h0 h1, T.x_kFB]
      simp [h0]
theorem k_F (T : Txt K mg) (m : Tf) : PySem.W.kitOne K (.ref (clsT K m)) (.ref (aF K)) = some (decide (m.kind ≠ 0 ∧ m.kind ≠ 1)) := by
  by_cases h0 : m.kind = 0
  · rw [cls0 h0, T.x_kTF]
    simp [h0]
  · by_cases h1 : m.kind = 1
    · rw [cls1 h1, T.x_kBF]
      simp [h1]
    · rw [cls2 h0 h1, T.x_kFF]
      simp [h0, h1]
theorem rep0 (s : Int) (G : Hp) (q dx : Addr) (vs : List (Str × V)) (h : G q = some (.ins (aT K) dx vs)) (f : FlAll K G vs [fR s]) : rpTf.rp K G (.ref q) ⟨0, s, [], 0⟩ := ⟨q, dx, vs, rfl, h, f⟩
theorem rep1 (s : Int × List (Int × Int)) (G : Hp) (q dx : Addr) (vs : List (Str × V)) (h : G q = some (.ins (aB K) dx vs)) (f : FlAll K G vs [fR s.1, fBl s.2]) : rpTf.rp K G (.ref q) ⟨1, s.1, s.2, 0⟩ := ⟨q, dx, vs, rfl, h, f⟩
theorem rep2 (s : Int × List (Int × Int) × Int) (G : Hp) (q dx : Addr) (vs : List (Str × V)) (h : G q = some (.ins (aF K) dx vs)) (f : FlAll K G vs [fR s.1, fBl s.2.1, fFr s.2.2]) : rpTf.rp K G (.ref q) ⟨2, s.1, s.2.1, s.2.2⟩ := ⟨q, dx, vs, rfl, h, f⟩
theorem supB_i (T : Txt K mg) {C : Addr} (h : okC2 K C) : SupTo K (aB K) C "__init__" (He.ma K (He.ga K "Tariff") "__init__") := by
  rcases h with rfl | rfl
  · exact T.x_sBB_init
  · exact T.x_sBF_init
theorem supF_i (T : Txt K mg) {C : Addr} (h : okC1 K C) : SupTo K (aF K) C "__init__" (He.ma K (He.ga K "BlockTariff") "__init__") := by
  have h : C = aF K := h
  subst h
  exact T.x_sFF_init
theorem supB_p (T : Txt K mg) (G : Hp) (v : V) (m : Tf) (h : m.kind ≠ 0) (r : rpTf.rp K G v m) : ∃ p C dx fs, v = .ref p ∧ G p = some (.ins C dx fs) ∧ SupTo K (aB K) C "price_of" (He.ma K (He.ga K "Tariff") "price_of") := by
  obtain ⟨a, dx, vs, h1, h2, _⟩ := r
  refine ⟨a, _, dx, vs, h1, h2, ?_⟩
  by_cases h' : m.kind = 1
  · rw [cls1 h']
    exact T.x_sBB_price_of
  · rw [cls2 h h']
    exact T.x_sBF_price_of
theorem supF_p (T : Txt K mg) (G : Hp) (v : V) (m : Tf) (h : m.kind ≠ 0 ∧ m.kind ≠ 1) (r : rpTf.rp K G v m) : ∃ p C dx fs, v = .ref p ∧ G p = some (.ins C dx fs) ∧ SupTo K (aF K) C "price_of" (He.ma K (He.ga K "BlockTariff") "price_of") := by
  obtain ⟨a, dx, vs, h1, h2, _⟩ := r
  refine ⟨a, _, dx, vs, h1, h2, ?_⟩
  rw [cls2 h.1 h.2]
  exact T.x_sFF_price_of
end
end K30

set_option Elab.async false
set_option linter.all false
set_option maxRecDepth 100000
set_option maxHeartbeats 1000000
set_option autoImplicit false
namespace K30
open PySem PySem.Spec PyProof.Rows L2 Ty NdefX L2H
/-! ### what the defs compute -/
abbrev eIN (n : Int) : Exn := ⟨"InvalidNumber", [("number", .int n)]⟩
def okN (n : Int) : Prop := 0 ≤ n ∧ n ≤ 9999
instance (n : Int) : Decidable (okN n) := inferInstanceAs (Decidable (0 ≤ n ∧ n ≤ 9999))
/-- the first wrong number of the blocks -/
def fB : Int → List (Int × Int) → Option Int
  | _, [] => none
  | lo, b :: r => if lo ≤ b.1 ∧ b.1 ≤ 9999 then (if okN b.2 then fB (b.1 + 1) r else some b.2) else some b.1
def orE : Option Int → Option Int → Option Int
  | some n, _ => some n
  | none, y => y
def ckN (n : Int) : Option Int := if okN n then none else some n
/-- .. of a plan, as the classes look at it -/
def fP (p : Pl) : Option Int := orE (ckN p.x1) (if p.x0 = 0 then none else orE (fB 0 p.x2.l) (if p.x0 = 1 then none else ckN p.x3))
/-- .. as the law does -/
def fL (p : Pl) : Option Int := orE (ckN p.x1) (orE (fB 0 p.x2.l) (ckN p.x3))
def tuF : Option Int → Tu Int
  | none => ⟨[]⟩
  | some n => ⟨[n]⟩
def InvP (p : Pl) : Prop := (p.x0 = 0 ∨ p.x0 = 1 ∨ p.x0 = 2) ∧ (p.x0 = 0 → p.x2.l = []) ∧ (p.x0 ≠ 2 → p.x3 = 0) ∧ p.x2.l.length ≤ 100
def OkP (p : Pl) : Prop := InvP p ∧ fL p = none
def mkT (p : Pl) : Tf := ⟨p.x0, p.x1, p.x2.l, p.x3⟩
def bl (u : Int) : Int → List (Int × Int) → Int
  | s, [] => s
  | s, b :: r => bl u (s + b.2 * max 0 (u - b.1)) r
def priceT (m : Tf) (u : Int) : Int := if m.kind = 0 then m.rate * u else if m.kind = 1 then bl u (m.rate * u) m.blocks else bl (max 0 (u - m.free)) (m.rate * max 0 (u - m.free)) m.blocks
def OkT (m : Tf) : Prop := okN m.rate ∧ okN m.free ∧ ∀ b ∈ m.blocks, okN b.2
def exO (o : Option Int) (post : Prop) (ep : Exn → Prop) : Prop := match o with
  | some n => ep (eIN n)
  | none => post
theorem okc23 {K : Fg} {C : Addr} (h : okC2 K C) : okC3 K C := .inr h
theorem okc12 {K : Fg} {C : Addr} (h : okC1 K C) : okC2 K C := .inr h
theorem own_no {l : List Sl} (h : ∀ z, z ∈ l.tail → z.own = false) (j : Nat) {z : Sl} (e : l[j + 1]? = some z) : z.own = false := by
  cases l with
  | nil => cases e
  | cons a l => exact h z (List.mem_of_getElem? (show l[j]? = some z from e))
theorem bindsS {P : Program} {K : Fg} {F : NF} {f D cc : Addr} {fd : FuncData} {ps : List Str} (U : SupD K P F f D cc fd) (h : ∀ (doc pm : Value) (an : Option Addr) (c ct : Value) (us : List Value), us.length = ps.length → bindArgs (PySem.W.fnX F.name F.qual F.params F.body F.scope F.cl .none .none doc pm an c ct) ⟨us, []⟩ = pure (ps.zip us)) : Binds K fd ps [] := by
  obtain ⟨oc, od, doc, pm, an, ct, osl, rfl, _⟩ := U.fn
  exact Binds.all fun us hl => h doc pm an _ ct us hl
theorem okPhi {P : Program} {w : World} {K : Fg} {mg : Str → Option Value} {base : Heap} {k : Nat} {f : Addr} {fd : FuncData} {ps : List Str} {ι β : Type} {as : ι → List Sl} {i : Rp β} {Φ Φ' : ι → Pt β} (F : FnOk P w K mg base (L2.CX P w) k f fd ps (spOf K rs0 as i Φ)) (h : ∀ y post ep, Φ' y post ep → Φ y post ep) : FnOk P w K mg base (L2.CX P w) k f fd ps (spOf K rs0 as i Φ') :=
  F.imp fun vs H Q E ⟨G, y, post, ep, wd, ha, φ, hq, hx⟩ => ⟨G, y, post, ep, wd, ha, h y post ep φ, hq, hx⟩
section
variable {w : World} {K : Fg} {mg : Str → Option Value} {base : Heap}
theorem sc_InvalidNumber_init : NScope ["self", "number", "__class__"] ["self", "number"] [("__class__" : Str)] (defScope s_InvalidNumber_init) := nscope_by (by decide +kernel)
theorem ok_err (T : Txt K mg) : ∃ fd, FnOk pw w K mg base (L2.CX pw w) 1 (He.ma K (He.ga K "InvalidNumber") "__init__") fd ["self", "number"] (spE (He.ga K "InvalidNumber") ["number"] fun _ => True) ∧ Binds K fd ["self", "number"] [] := by
  obtain ⟨fd, U⟩ := T.d_InvalidNumber_init
  refine ⟨fd, fn_err1 (te := tC (.str "number out of range")) U sc_InvalidNumber_init T.f_super T.x_err.o T.x_err.s T.x_nonum rfl (by decide) rfl (fun _ _ _ _ _ => pe_str) (fun _ _ _ _ _ h => h _) (fun _ => rfl) (by decide) (by decide) (fun _ => ⟨_, rfl⟩) (fun _ => rfl), bindsS U fun _ _ _ _ _ us hl => match us, hl with | [_, _], _ => rfl⟩
end
/-! ### plain laws -/
theorem ckN_pos {n : Int} (h : okN n) : ckN n = none := if_pos h
theorem ckN_neg {n : Int} (h : ¬ okN n) : ckN n = some n := if_neg h
theorem ckN_none {n : Int} (h : ckN n = none) : okN n := by
  by_cases a : okN n
  · exact a
  · rw [ckN_neg a] at h
    cases h
theorem orE_none {x y : Option Int} (h : orE x y = none) : x = none ∧ y = none := by
  cases x with
  | none => exact ⟨rfl, h⟩
  | some n => cases h
theorem orE_right (x : Option Int) : orE x none = x := by cases x <;> rfl
theorem fB_cons {lo : Int} {b : Int × Int} {r : List (Int × Int)} (h1 : lo ≤ b.1 ∧ b.1 ≤ 9999) (h2 : okN b.2) : fB lo (b :: r) = fB (b.1 + 1) r := by
  show (if lo ≤ b.1 ∧ b.1 ≤ 9999 then (if okN b.2 then fB (b.1 + 1) r else some b.2) else some b.1) = _
  rw [if_pos h1, if_pos h2]
theorem fB_bad1 {lo : Int} {b : Int × Int} {r : List (Int × Int)} (h1 : ¬ (lo ≤ b.1 ∧ b.1 ≤ 9999)) : fB lo (b :: r) = some b.1 := by
  show (if lo ≤ b.1 ∧ b.1 ≤ 9999 then (if okN b.2 then fB (b.1 + 1) r else some b.2) else some b.1) = _
  rw [if_neg h1]
theorem fB_bad2 {lo : Int} {b : Int × Int} {r : List (Int × Int)} (h1 : lo ≤ b.1 ∧ b.1 ≤ 9999) (h2 : ¬ okN b.2) : fB lo (b :: r) = some b.2 := by
  show (if lo ≤ b.1 ∧ b.1 ≤ 9999 then (if okN b.2 then fB (b.1 + 1) r else some b.2) else some b.1) = _
  rw [if_pos h1, if_neg h2]
theorem fB_inv {lo : Int} {b : Int × Int} {r : List (Int × Int)} (h : fB lo (b :: r) = none) : (lo ≤ b.1 ∧ b.1 ≤ 9999) ∧ okN b.2 ∧ fB (b.1 + 1) r = none := by
  by_cases h1 : lo ≤ b.1 ∧ b.1 ≤ 9999
  · by_cases h2 : okN b.2
    · exact ⟨h1, h2, (fB_cons h1 h2).symm.trans h⟩
    · rw [fB_bad2 h1 h2] at h
      cases h
  · rw [fB_bad1 h1] at h
    cases h
theorem fB_ok : ∀ {bs : List (Int × Int)} {lo : Int}, fB lo bs = none → ∀ b ∈ bs, lo ≤ b.1 ∧ b.1 ≤ 9999 ∧ okN b.2
  | [], _, _ => fun _ h => nomatch h
  | b :: r, lo, h => fun c hc => by
    obtain ⟨h1, h2, h3⟩ := fB_inv h
    rcases List.mem_cons.mp hc with rfl | hc
    · exact ⟨h1.1, h1.2, h2⟩
    · obtain ⟨a1, a2, a3⟩ := fB_ok h3 c hc
      exact ⟨by omega, a2, a3⟩
theorem fB_snoc : ∀ {bs : List (Int × Int)} {lo a e : Int}, fB lo bs = none → (∀ b ∈ bs, b.1 < a) → lo ≤ a → a ≤ 9999 → okN e → fB lo (bs ++ [(a, e)]) = none
  | [], lo, a, e, _, _, h1, h2, h3 => by
    rw [List.nil_append, fB_cons (b := (a, e)) ⟨h1, h2⟩ h3]
    rfl
  | b :: r, lo, a, e, h, hb, h1, h2, h3 => by
    obtain ⟨k1, k2, k3⟩ := fB_inv h
    rw [List.cons_append, fB_cons k1 k2]
    exact fB_snoc k3 (fun c hc => hb c (List.mem_cons_of_mem _ hc)) (by have := hb b List.mem_cons_self; omega) h2 h3
theorem fB_init : ∀ {bs : List (Int × Int)} {lo : Int} {m : Int × Int}, fB lo (bs ++ [m]) = none → fB lo bs = none ∧ (∀ b ∈ bs, b.1 < m.1) ∧ lo ≤ m.1 ∧ m.1 ≤ 9999 ∧ okN m.2
  | [], lo, m, h => by
    obtain ⟨h1, h2, _⟩ := fB_inv h
    exact ⟨rfl, fun _ h => (nomatch h), h1.1, h1.2, h2⟩
  | b :: r, lo, m, h => by
    obtain ⟨k1, k2, k3⟩ := fB_inv h
    obtain ⟨a1, a2, a3, a4, a5⟩ := fB_init k3
    refine ⟨by rw [fB_cons k1 k2]; exact a1, fun c hc => ?_, by omega, a4, a5⟩
    rcases List.mem_cons.mp hc with rfl | hc
    · omega
    · exact a2 c hc
theorem fPL {p : Pl} (h : InvP p) : fP p = fL p := by
  obtain ⟨h1, h2, h3, _⟩ := h
  have c0 : ckN 0 = none := ckN_pos (by unfold okN; omega)
  unfold fP fL
  rcases h1 with h | h | h
  · rw [if_pos h, h2 h, h3 (by omega), c0]
    rfl
  · rw [if_neg (by omega), if_pos h, h3 (by omega), c0]
  · rw [if_neg (by omega), if_neg (by omega)]
theorem OkP.out {p : Pl} (h : OkP p) : okN p.x1 ∧ fB 0 p.x2.l = none ∧ okN p.x3 := by
  obtain ⟨a, b⟩ := orE_none h.2
  obtain ⟨b, c⟩ := orE_none b
  exact ⟨ckN_none a, b, ckN_none c⟩
theorem OkP.t {p : Pl} (h : OkP p) : OkT (mkT p) := by
  obtain ⟨a, b, c⟩ := h.out
  exact ⟨a, c, fun x hx => (fB_ok b x hx).2.2⟩
theorem price_eq {p : Pl} (h : InvP p) {u : Int} (hu : 0 ≤ u) : priceT (mkT p) u = bl (max 0 (u - p.x3)) (p.x1 * max 0 (u - p.x3)) p.x2.l := by
  obtain ⟨h1, h2, h3, _⟩ := h
  have e : p.x0 ≠ 2 → max 0 (u - p.x3) = u := fun z => by
    rw [h3 z]
    omega
  unfold priceT
  rcases h1 with h | h | h
  · rw [if_pos (show (mkT p).kind = 0 from h), e (by omega), h2 h]
    rfl
  · rw [if_neg (show ¬ (mkT p).kind = 0 from fun z => by have z : p.x0 = 0 := z; omega), if_pos (show (mkT p).kind = 1 from h), e (by omega)]
    rfl
  · rw [if_neg (show ¬ (mkT p).kind = 0 from fun z => by have z : p.x0 = 0 := z; omega), if_neg (show ¬ (mkT p).kind = 1 from fun z => by have z : p.x0 = 1 := z; omega)]
    rfl
theorem exO_map {o : Option Int} {P P' : Prop} {ep ep' : Exn → Prop} (h : exO o P ep) (h1 : P → P') (h2 : ∀ n, o = some n → ep (eIN n) → ep' (eIN n)) : exO o P' ep' := by
  cases o with
  | none => exact h1 h
  | some n => exact h2 n rfl h
theorem rangeI_len (n : Nat) : (rangeI 0 n).length = n := by simp [rangeI]
theorem rangeI_mem {n : Nat} {k : Int} (h : k ∈ rangeI 0 n) : ∃ j : Nat, j < n ∧ k = (j : Int) := by
  unfold rangeI at h
  obtain ⟨j, h1, h2⟩ := List.mem_map.mp h
  exact ⟨j, List.mem_range.mp h1, by omega⟩
theorem atI_nat {α : Type} {xs : List α} {j : Nat} (h : j < xs.length) : atI xs (j : Int) = some xs[j] := by
  unfold atI
  rw [ixNn h]
  exact List.getElem?_eq_getElem h
theorem atI_ok {α : Type} {xs : List α} {k : Int} (h1 : 0 ≤ k) (h2 : k < xs.length) : ∃ m, atI xs k = some m ∧ m ∈ xs := by
  obtain ⟨j, rfl⟩ : ∃ j : Nat, k = (j : Int) := ⟨k.toNat, by omega⟩
  have hj : j < xs.length := by omega
  exact ⟨xs[j], atI_nat hj, List.getElem_mem hj⟩
theorem atI_last {α : Type} {xs : List α} {m : α} : atI (xs ++ [m]) (-1) = some m := by
  have e : ixN (xs ++ [m]).length (-1) = some xs.length := by
    unfold ixN
    rw [if_neg (by omega), if_pos (by rw [List.length_append]; simp; omega)]
    simp
    omega
  unfold atI
  rw [e]
  simp
theorem setN_last {α : Type} {xs : List α} {m n : α} : setN (xs ++ [m]) (-1) n = xs ++ [n] ∧ (ixN (xs ++ [m]).length (-1)).isSome = true := by
  have e : ixN (xs ++ [m]).length (-1) = some xs.length := by
    unfold ixN
    rw [if_neg (by omega), if_pos (by rw [List.length_append]; simp; omega)]
    simp
    omega
  unfold setN
  rw [e]
  exact ⟨by simp, rfl⟩
theorem setN_len {α : Type} (xs : List α) (k : Int) (m : α) : (setN xs k m).length = xs.length := by
  unfold setN
  split
  · exact List.length_set
  · rfl
theorem ixN_ok {n : Nat} {k : Int} (h1 : 0 ≤ k) (h2 : k < n) : (ixN n k).isSome = true := by
  obtain ⟨j, rfl⟩ : ∃ j : Nat, k = (j : Int) := ⟨k.toNat, by omega⟩
  rw [ixNn (by omega)]
  rfl
theorem inv_set {p : Pl} (h : InvP p) (h0 : 0 < p.x0) (k : Int) (m : Int × Int) : InvP ⟨p.x0, p.x1, ⟨setN p.x2.l k m⟩, p.x3⟩ := by
  obtain ⟨h1, h2, h3, h4⟩ := h
  exact ⟨h1, fun z => by have z : p.x0 = 0 := z; omega, h3, by show (setN p.x2.l k m).length ≤ 100; rw [setN_len]; exact h4⟩
theorem tuF_eq {x y : Option Int} (h : x = y) : (tuF x).l = (tuF y).l := by rw [h]
theorem tuF_none {o : Option Int} (h : tuF o = ⟨[]⟩) : o = none := by
  cases o with
  | none => rfl
  | some n => cases h
theorem sz100 {n : Nat} (h : n ≤ 100) : n < sizeLine := by
  rw [sizeLine_eq]
  omega
theorem forP_imp {α S β : Type} {Φb Φc : α → S → Pt (Out S S β)} {fin fin' : S → Prop} {rt : β → Prop} {ep : Exn → Prop} {xs : List α} {s : S} (h : forP Φb fin rt ep xs s) (hb : ∀ x s post ep, Φb x s post ep → Φc x s post ep) (hf : ∀ s, fin s → fin' s) (mono : ∀ x s (P P' : Out S S β → Prop) ep, (∀ o, P o → P' o) → Φb x s P ep → Φb x s P' ep) : forP Φc fin' rt ep xs s := by
  induction xs generalizing s with
  | nil => exact hf s h
  | cons x r ih =>
    refine hb x s _ ep (mono x s _ _ ep (fun o ho => ?_) h)
    cases o with
    | nx s' => exact ih ho
    | ct s' => exact ih ho
    | bk s' => exact hf s' ho
    | rt b => exact ho
end K30

set_option Elab.async false
set_option linter.all false
set_option maxRecDepth 100000
set_option maxHeartbeats 1000000
set_option autoImplicit false
namespace K30
open PySem PySem.Spec PyProof.Rows L2 Ty NdefX L2H
section
variable {w : World} {K : Fg} {mg : Str → Option Value} {base : Heap}
theorem sc_is_integer : FnScope ["value"] ["value"] (defScope s_is_integer) := ⟨rfl, rfl, rfl, by decide +kernel, rfl, by decide +kernel, by decide +kernel⟩
theorem ok_is_integer (T : Txt K mg) : Ok pw w K mg base "is_integer" (He.fAd K ("is_integer", none)) 1 ["value"] (spOf K rs0 (aCons rpI aNil) rpB (fun _ post _ => post true)) := by
  obtain ⟨fd, F⟩ := T.d_is_integer
  have nd := sc_is_integer.nd
  refine ⟨⟨fd, fn_ok F sc_is_integer (fun _ => rfl) (fun y cdv A outer s H G E hr => ⟨_, (b_ret (e_and (e_cb (isiw (cv := .ty "int") (u := .type "int") (b := true) tyI (.ty _) (L2.kit_ty (by decide +kernel))) T.f_isinstance (a_cons (e_var 0 rfl) (a_cons (e_clsB T.f_int) a_nil))) (e_one (e_not (e_cb (isiw (cv := .ty "bool") (u := .type "bool") (b := false) tyI (.ty _) (L2.kit_ty (by decide +kernel))) T.f_isinstance (a_cons (e_var 0 rfl) (a_cons (e_clsB T.f_bool) a_nil)))))))⟩) ?_, F.bindsN fun _ _ _ _ _ _ us hl => match us, hl with | [_], _ => rfl⟩, F.kp, T.g_is_integer⟩
  intro y post ep h
  dsimp only [endP, seqP, endI]
  exact h
theorem sc_is_within : FnScope ["value", "low", "high"] ["value", "low", "high"] (defScope s_is_within) := ⟨rfl, rfl, rfl, by decide +kernel, rfl, by decide +kernel, by decide +kernel⟩
theorem ok_is_within (T : Txt K mg) : Ok pw w K mg base "is_within" (He.fAd K ("is_within", none)) 2 ["value", "low", "high"] (spOf K rs0 (aCons rpI (aCons rpI (aCons rpI aNil))) rpB (fun x post _ => post (decide (x.2.1 ≤ x.1 ∧ x.1 ≤ x.2.2.1)))) := by
  obtain ⟨fd_is_integer, F_is_integer, B_is_integer⟩ := (ok_is_integer (w := w) (base := base) T).ex
  have K_is_integer := (ok_is_integer (w := w) (base := base) T).kp
  have G_is_integer := (ok_is_integer (w := w) (base := base) T).gm
  obtain ⟨fd, F⟩ := T.d_is_within
  have nd := sc_is_within.nd
  refine ⟨⟨fd, fn_ok F sc_is_within (fun _ => rfl) (fun y cdv A outer s H G E hr => ⟨_, (b_ret (e_and (e_call F_is_integer (hr.mono (by decide)) G_is_integer K_is_integer B_is_integer (takes_of rfl rfl rfl rfl) (a_cons (e_var 0 rfl) a_nil)) (e_one (e_chain le_I le_I (e_var 1 rfl) (e_var 0 rfl) (e_var 2 rfl)))))⟩) ?_, F.bindsN fun _ _ _ _ _ _ us hl => match us, hl with | [_, _, _], _ => rfl⟩, F.kp, T.g_is_within⟩
  intro y post ep h
  dsimp only [endP, seqP, endI]
  by_cases a : y.2.1 ≤ y.1
  · by_cases b : y.1 ≤ y.2.2.1
    · simpa [a, b] using h
    · simpa [a, b] using h
  · simpa [a] using h
theorem sc_check_number : FnScope ["number", "low", "high"] ["number", "low", "high"] (defScope s_check_number) := ⟨rfl, rfl, rfl, by decide +kernel, rfl, by decide +kernel, by decide +kernel⟩
theorem ok_check_number (T : Txt K mg) : Ok pw w K mg base "check_number" (He.fAd K ("check_number", none)) 3 ["number", "low", "high"] (spOf K rs0 (aCons rpI (aCons rpI (aCons rpI aNil))) rpN (fun x post ep => if x.2.1 ≤ x.1 ∧ x.1 ≤ x.2.2.1 then post () else ep (eIN x.1))) := by
  obtain ⟨fd_is_within, F_is_within, B_is_within⟩ := (ok_is_within (w := w) (base := base) T).ex
  have K_is_within := (ok_is_within (w := w) (base := base) T).kp
  have G_is_within := (ok_is_within (w := w) (base := base) T).gm
  obtain ⟨fd_err, F_err, B_err⟩ := ok_err (w := w) (base := base) T
  obtain ⟨fd, F⟩ := T.d_check_number
  have nd := sc_check_number.nd
  refine ⟨⟨fd, fn_okU F sc_check_number (fun _ => rfl) (fun y cdv A outer s H G E hr => ⟨_, (b_ifE (t_not (t_val (e_call F_is_within (hr.mono (by decide)) G_is_within K_is_within B_is_within (takes_of rfl rfl rfl rfl) (a_cons (e_var 0 rfl) (a_cons (e_var 1 rfl) (a_cons (e_var 2 rfl) a_nil))))))
 (b_raise1 T.x_err rfl F_err (hr.mono (by decide)) B_err rfl T.g_InvalidNumber (takes_of rfl rfl rfl rfl) (e_var 0 rfl) b_never)
 (b_nil () (.cons (.no _) (.cons (.no _) (.cons (.no _) .nil)))))⟩) ?_, F.bindsN fun _ _ _ _ _ _ us hl => match us, hl with | [_, _, _], _ => rfl⟩, F.kp, T.g_check_number⟩
  intro y post ep h
  dsimp only [endP, seqP, endI]
  by_cases a : y.2.1 ≤ y.1 ∧ y.1 ≤ y.2.2.1
  · rw [if_pos a] at h
    rw [if_neg (by simp only [a, decide_true]; decide)]
    exact h
  · rw [if_neg a] at h
    rw [if_pos (by simp only [a, decide_false]; rfl)]
    exact h
theorem sc_Tariff_init : FnScope ["self", "rate"] ["self", "rate"] (defScope s_Tariff_init) := ⟨rfl, rfl, rfl, by decide +kernel, rfl, by decide +kernel, by decide +kernel⟩
theorem ok_Tariff_init (T : Txt K mg) : OkM pw w K mg base (He.fAd K ("Tariff", some "__init__")) 4 ["self", "rate"] (spJ K (okC3 K) (aCons rpI aNil) (fun s : Int => [fR s]) (fun x post ep => exO (ckN x.1) (post x.1) ep)) := by
  obtain ⟨fd_check_number, F_check_number, B_check_number⟩ := (ok_check_number (w := w) (base := base) T).ex
  have K_check_number := (ok_check_number (w := w) (base := base) T).kp
  have G_check_number := (ok_check_number (w := w) (base := base) T).gm
  obtain ⟨t_GREATEST, G_GREATEST⟩ := T.i_GREATEST
  obtain ⟨fd, F⟩ := T.d_Tariff_init
  have nd := sc_Tariff_init.nd
  refine ⟨⟨fd, fn_okJ (tail := [.no]) F sc_Tariff_init (fun _ => rfl) (fun y q C cdv A outer s H Hb G E hC hr => ⟨_, (b_expr (e_call F_check_number (hr.mono (by decide)) G_check_number K_check_number B_check_number (takes_of rfl rfl rfl rfl) (a_cons (e_var 1 rfl) (a_cons e_int (a_cons (e_glob (i := rpI) (m := (9999 : Int)) (v := .int 9999) G_GREATEST ⟨_, rfl⟩ (fun _ => rfl)) a_nil)))) (b_fld 0 rfl (c3 T hC).1 (c3 T hC).2 (by first | decide | (simp only [List.map]; decide)) (by simp) (e_var 1 rfl)
 (fun rate_1 => (b_nil rate_1 (.cons (.refl _) (.cons (.no _) .nil))))))⟩) ?_, F.bindsN fun _ _ _ _ _ _ us hl => match us, hl with | [_, _], _ => rfl⟩⟩
  intro y post ep h
  dsimp only [endP, seqP, endI]
  by_cases a : 0 ≤ y.1 ∧ y.1 ≤ 9999
  · rw [ckN_pos a] at h
    rw [if_pos a]
    exact h
  · rw [ckN_neg a] at h
    rw [if_neg a]
    exact h
theorem sc_Tariff_price_of : FnScope ["self", "units"] ["self", "units"] (defScope s_Tariff_price_of) := ⟨rfl, rfl, rfl, by decide +kernel, rfl, by decide +kernel, by decide +kernel⟩
theorem ok_Tariff_price_of (T : Txt K mg) : OkM pw w K mg base (He.fAd K ("Tariff", some "price_of")) 3 ["self", "units"] (spOf K rs0 (aCons rpTf (aCons rpI aNil)) rpI (fun x post ep => okN x.1.rate ∧ (if x.2.1 < 0 then ep (eIN x.2.1) else post (x.1.rate * x.2.1)))) := by
  obtain ⟨fd_err, F_err, B_err⟩ := ok_err (w := w) (base := base) T
  obtain ⟨fd, F⟩ := T.d_Tariff_price_of
  have nd := sc_Tariff_price_of.nd
  refine ⟨⟨fd, fn_ok F sc_Tariff_price_of (fun _ => rfl) (fun y cdv A outer s H G E hr => ⟨_, (b_if (mid := fun s1 : Unit => [.val rpTf y.1, .val rpI y.2.1]) (t_cmp lt_I (e_var 1 rfl) e_int (nomark _))
 (b_raise1 T.x_err rfl F_err (hr.mono (by decide)) B_err rfl T.g_InvalidNumber (takes_of rfl rfl rfl rfl) (e_var 1 rfl) b_never)
 (b_nil () (.cons (.refl _) (.cons (.refl _) .nil)))
 (fun s1 => (b_ret (e_op mul_I (e_fldC f_rate (fc_rate T) (e_var 0 rfl)) (e_var 1 rfl)))))⟩) ?_, F.bindsN fun _ _ _ _ _ _ us hl => match us, hl with | [_, _], _ => rfl⟩⟩
  intro y post ep h
  dsimp only [endP, seqP, endI]
  obtain ⟨h1, h2⟩ := h
  unfold okN at h1
  by_cases a : y.2.1 < 0
  · rw [if_pos a] at h2
    rw [if_pos (decide_eq_true a)]
    exact h2
  · rw [if_neg a] at h2
    rw [if_neg (by simpa using a)]
    exact ⟨trivial, .inl ⟨by omega, by omega⟩, h2⟩
theorem sc_BlockTariff_init : NScope ["self", "rate", "blocks", "__class__", "checked", "least", "above", "extra"] ["self", "rate", "blocks"] [("__class__" : Str)] (defScope s_BlockTariff_init) := nscope_by (by decide +kernel)
theorem ok_BlockTariff_init_L (T : Txt K mg) : OkM pw w K mg base (He.fAd K ("BlockTariff", some "__init__")) 5 ["self", "rate", "blocks"] (spJ K (okC2 K) (aCons rpI (aCons (rpL (i := (rp2 (i := rpI) (j := rpI)))) aNil)) (fun s : Int × List (Int × Int) => [fR s.1, fBl s.2]) (fun x post ep => exO (orE (ckN x.1) (fB 0 x.2.1)) (post (x.1, x.2.1)) ep)) := by
  obtain ⟨fd_check_number, F_check_number, B_check_number⟩ := (ok_check_number (w := w) (base := base) T).ex
  have K_check_number := (ok_check_number (w := w) (base := base) T).kp
  have G_check_number := (ok_check_number (w := w) (base := base) T).gm
  obtain ⟨fd_sup, F_sup, B_sup⟩ := (ok_Tariff_init (w := w) (base := base) T).ex
  obtain ⟨t_GREATEST, G_GREATEST⟩ := T.i_GREATEST
  obtain ⟨fd, U⟩ := T.d_BlockTariff_init
  have nd := sc_BlockTariff_init.nd
  have ownF : ∀ (q C : Addr) (y : Int × (List (Int × Int)) × Unit) (j : Nat) (z : Sl), ([.oi q C [], .val rpI y.1, .val (rpL (i := (rp2 (i := rpI) (j := rpI)))) y.2.1, .no, .no, .no, .no, .no] : List Sl)[j + 1]? = some z → z.own = false := fun q C y j z => own_no (by simp [Sl.own]) j
  refine ⟨⟨fd, fnS_okJ (tail := [.no, .no, .no, .no, .no, .no, .no]) U sc_BlockTariff_init (fun _ => rfl) (fun y q C A outer s H Hb G E hC hr => ⟨_, (js_supI rfl (okc23 hC) (supB_i T hC) rfl (ownF q C y) U sc_BlockTariff_init rfl T.f_super rfl T.x_fT_init F_sup (hr.mono (by decide)) B_sup takes_s (a_cons (e_var 1 rfl) a_nil)
 (fun s1 => (b_new (rp2 (i := rpI) (j := rpI)) 4 nd (b_set 5 nd e_int
 (fun least_2 => (b_for (lpS := fun s3 : (List (Int × Int)) × Int => [.oi q C [("rate", fld rpI s1)], .val rpI y.1, .val (rpL (i := (rp2 (i := rpI) (j := rpI)))) y.2.1, .no, .ml (rp2 (i := rpI) (j := rpI)) s3.1, .val rpI s3.2, .no, .no]) ([], least_2) (.cons (.refl _) (.cons (.refl _) (.cons (.refl _) (.cons (.refl _) (.cons (.refl _) (.cons (.refl _) (.cons (.refl _) (.cons (.refl _) .nil)))))))) (passes_of rfl) rfl (i_lst (e_var 2 rfl)) (g_tup2 rfl (g_name 6 nd) (g_name 7 nd))
 (fun x4 s3 => (b_expr (e_call F_check_number (hr.mono (by decide)) G_check_number K_check_number B_check_number takes_s (a_cons (e_var 6 rfl) (a_cons (e_var 5 rfl) (a_cons (e_glob (i := rpI) (m := (9999 : Int)) (v := .int 9999) G_GREATEST ⟨_, rfl⟩ (fun _ => rfl)) a_nil)))) (b_expr (e_call F_check_number (hr.mono (by decide)) G_check_number K_check_number B_check_number takes_s (a_cons (e_var 7 rfl) (a_cons e_int (a_cons (e_glob (i := rpI) (m := (9999 : Int)) (v := .int 9999) G_GREATEST ⟨_, rfl⟩ (fun _ => rfl)) a_nil)))) (b_app1 4 rfl (e_tup2 (a_cons (e_var 6 rfl) (a_cons (e_var 7 rfl) a_nil)))
 (fun m5 => (b_set 5 nd (e_op add_I (e_var 6 rfl) e_int)
 (fun least_6 => (b_nil ((s3.1 ++ [m5]), least_6) (.cons (.refl _) (.cons (.refl _) (.cons (.refl _) (.cons (.refl _) (.cons (.refl _) (.cons (.refl _) (.cons (.no _) (.cons (.no _) .nil))))))))))))))))
 (fun s3 => (b_frz 4 rfl (b_fld 0 rfl (c2 T hC).1 (c2 T hC).2 (by first | decide | (simp only [List.map]; decide)) (by simp) (e_ct tuple_L T.f_tuple (a_cons (e_var 4 rfl) a_nil))
 (fun blocks_7 => (b_nil (s1, blocks_7.l) (.cons (.refl _) (.cons (.no _) (.cons (.no _) (.cons (.refl _) (.cons (.no _) (.cons (.no _) (.cons (.refl _) (.cons (.refl _) .nil)))))))))))))))))))⟩) ?_, bindsS U (fun _ _ _ _ _ us hl => match us, hl with | [_, _, _], _ => rfl)⟩⟩
  intro y post ep h
  dsimp only [endP, seqP, endI]
  have hl0 : orE (ckN y.1) (fB 0 y.2.1) = orE (ckN y.1) (fB 0 y.2.1) := rfl
  cases hc : ckN y.1 with
  | some n =>
    rw [hc] at h
    exact h
  | none =>
    rw [hc] at h
    have h : exO (fB 0 y.2.1) (post (y.1, y.2.1)) ep := h
    intro hz
    refine forP_ind (fun rest s => exO (fB s.2 rest) (post (y.1, s.1 ++ rest)) ep ∧ s.1.length + rest.length ≤ sizeLine) (fun s hi => ?_) (fun b r s next hn hi => ?_) _ _ ⟨h, by simpa using hz⟩
    · obtain ⟨h1, h2⟩ := hi
      have h1 : post (y.1, s.1 ++ []) := h1
      rw [List.append_nil] at h1
      exact ⟨by simpa using h2, h1⟩
    · obtain ⟨h1, h2⟩ := hi
      rw [List.length_cons] at h2
      by_cases a : s.2 ≤ b.1 ∧ b.1 ≤ 9999
      · rw [if_pos a]
        by_cases a2 : 0 ≤ b.2 ∧ b.2 ≤ 9999
        · rw [if_pos a2]
          rw [fB_cons a a2] at h1
          refine ⟨by omega, hn _ ⟨?_, ?_⟩⟩
          · show exO (fB (b.1 + 1) r) (post (y.1, (s.1 ++ [(b.1, b.2)]) ++ r)) ep
            rw [List.append_assoc]
            exact h1
          · show (s.1 ++ [(b.1, b.2)]).length + r.length ≤ sizeLine
            rw [List.length_append, List.length_singleton]
            omega
        · rw [if_neg a2]
          rw [fB_bad2 a a2] at h1
          exact h1
      · rw [if_neg a]
        rw [fB_bad1 a] at h1
        exact h1
theorem sc_FreeTariff_init : NScope ["self", "rate", "blocks", "free", "__class__"] ["self", "rate", "blocks", "free"] [("__class__" : Str)] (defScope s_FreeTariff_init) := nscope_by (by decide +kernel)
theorem ok_FreeTariff_init_L (T : Txt K mg) : OkM pw w K mg base (He.fAd K ("FreeTariff", some "__init__")) 6 ["self", "rate", "blocks", "free"] (spJ K (okC1 K) (aCons rpI (aCons (rpL (i := (rp2 (i := rpI) (j := rpI)))) (aCons rpI aNil))) (fun s : Int × List (Int × Int) × Int => [fR s.1, fBl s.2.1, fFr s.2.2]) (fun x post ep => exO (orE (orE (ckN x.1) (fB 0 x.2.1)) (ckN x.2.2.1)) (post (x.1, x.2.1, x.2.2.1)) ep)) := by
  obtain ⟨fd_check_number, F_check_number, B_check_number⟩ := (ok_check_number (w := w) (base := base) T).ex
  have K_check_number := (ok_check_number (w := w) (base := base) T).kp
  have G_check_number := (ok_check_number (w := w) (base := base) T).gm
  obtain ⟨fd_sup, F_sup, B_sup⟩ := (ok_BlockTariff_init_L (w := w) (base := base) T).ex
  obtain ⟨t_GREATEST, G_GREATEST⟩ := T.i_GREATEST
  obtain ⟨fd, U⟩ := T.d_FreeTariff_init
  have nd := sc_FreeTariff_init.nd
  have ownF : ∀ (q C : Addr) (y : Int × (List (Int × Int)) × Int × Unit) (j : Nat) (z : Sl), ([.oi q C [], .val rpI y.1, .val (rpL (i := (rp2 (i := rpI) (j := rpI)))) y.2.1, .val rpI y.2.2.1, .no] : List Sl)[j + 1]? = some z → z.own = false := fun q C y j z => own_no (by simp [Sl.own]) j
  refine ⟨⟨fd, fnS_okJ (tail := [.no, .no, .no, .no]) U sc_FreeTariff_init (fun _ => rfl) (fun y q C A outer s H Hb G E hC hr => ⟨_, (js_supI rfl (okc12 hC) (supF_i T hC) rfl (ownF q C y) U sc_FreeTariff_init rfl T.f_super rfl T.x_fB_init F_sup (hr.mono (by decide)) B_sup takes_s (a_cons (e_var 1 rfl) (a_cons (e_var 2 rfl) a_nil))
 (fun s1 => (b_expr (e_call F_check_number (hr.mono (by decide)) G_check_number K_check_number B_check_number takes_s (a_cons (e_var 3 rfl) (a_cons e_int (a_cons (e_glob (i := rpI) (m := (9999 : Int)) (v := .int 9999) G_GREATEST ⟨_, rfl⟩ (fun _ => rfl)) a_nil)))) (b_fld 0 rfl (c1 T hC).1 (c1 T hC).2 (by first | decide | (simp only [List.map]; decide)) (by simp) (e_var 3 rfl)
 (fun free_2 => (b_nil (s1.1, s1.2, free_2) (.cons (.refl _) (.cons (.no _) (.cons (.no _) (.cons (.no _) (.cons (.refl _) .nil)))))))))))⟩) ?_, bindsS U (fun _ _ _ _ _ us hl => match us, hl with | [_, _, _, _], _ => rfl)⟩⟩
  intro y post ep h
  dsimp only [endP, seqP, endI]
  cases hc : orE (ckN y.1) (fB 0 y.2.1) with
  | some n =>
    rw [hc] at h
    exact h
  | none =>
    rw [hc] at h
    have h : exO (ckN y.2.2.1) (post (y.1, y.2.1, y.2.2.1)) ep := h
    show if 0 ≤ y.2.2.1 ∧ y.2.2.1 ≤ 9999 then _ else _
    by_cases a : 0 ≤ y.2.2.1 ∧ y.2.2.1 ≤ 9999
    · rw [ckN_pos a] at h
      rw [if_pos a]
      exact h
    · rw [ckN_neg a] at h
      rw [if_neg a]
      exact h
theorem ok_BlockTariff_init_T (T : Txt K mg) : OkM pw w K mg base (He.fAd K ("BlockTariff", some "__init__")) 5 ["self", "rate", "blocks"] (spJ K (okC2 K) (aCons rpI (aCons (rpT (i := (rp2 (i := rpI) (j := rpI)))) aNil)) (fun s : Int × List (Int × Int) => [fR s.1, fBl s.2]) (fun x post ep => exO (orE (ckN x.1) (fB 0 x.2.1.l)) (post (x.1, x.2.1.l)) ep)) := by
  obtain ⟨fd_check_number, F_check_number, B_check_number⟩ := (ok_check_number (w := w) (base := base) T).ex
  have K_check_number := (ok_check_number (w := w) (base := base) T).kp
  have G_check_number := (ok_check_number (w := w) (base := base) T).gm
  obtain ⟨fd_sup, F_sup, B_sup⟩ := (ok_Tariff_init (w := w) (base := base) T).ex
  obtain ⟨t_GREATEST, G_GREATEST⟩ := T.i_GREATEST
  obtain ⟨fd, U⟩ := T.d_BlockTariff_init
  have nd := sc_BlockTariff_init.nd
  have ownF : ∀ (q C : Addr) (y : Int × (Tu (Int × Int)) × Unit) (j : Nat) (z : Sl), ([.oi q C [], .val rpI y.1, .val (rpT (i := (rp2 (i := rpI) (j := rpI)))) y.2.1, .no, .no, .no, .no, .no] : List Sl)[j + 1]? = some z → z.own = false := fun q C y j z => own_no (by simp [Sl.own]) j
  refine ⟨⟨fd, fnS_okJ (tail := [.no, .no, .no, .no, .no, .no, .no]) U sc_BlockTariff_init (fun _ => rfl) (fun y q C A outer s H Hb G E hC hr => ⟨_, (js_supI rfl (okc23 hC) (supB_i T hC) rfl (ownF q C y) U sc_BlockTariff_init rfl T.f_super rfl T.x_fT_init F_sup (hr.mono (by decide)) B_sup takes_s (a_cons (e_var 1 rfl) a_nil)
 (fun s1 => (b_new (rp2 (i := rpI) (j := rpI)) 4 nd (b_set 5 nd e_int
 (fun least_2 => (b_for (lpS := fun s3 : (List (Int × Int)) × Int => [.oi q C [("rate", fld rpI s1)], .val rpI y.1, .val (rpT (i := (rp2 (i := rpI) (j := rpI)))) y.2.1, .no, .ml (rp2 (i := rpI) (j := rpI)) s3.1, .val rpI s3.2, .no, .no]) ([], least_2) (.cons (.refl _) (.cons (.refl _) (.cons (.refl _) (.cons (.refl _) (.cons (.refl _) (.cons (.refl _) (.cons (.refl _) (.cons (.refl _) .nil)))))))) (passes_of rfl) rfl (i_tpl (e_var 2 rfl)) (g_tup2 rfl (g_name 6 nd) (g_name 7 nd))
 (fun x4 s3 => (b_expr (e_call F_check_number (hr.mono (by decide)) G_check_number K_check_number B_check_number takes_s (a_cons (e_var 6 rfl) (a_cons (e_var 5 rfl) (a_cons (e_glob (i := rpI) (m := (9999 : Int)) (v := .int 9999) G_GREATEST ⟨_, rfl⟩ (fun _ => rfl)) a_nil)))) (b_expr (e_call F_check_number (hr.mono (by decide)) G_check_number K_check_number B_check_number takes_s (a_cons (e_var 7 rfl) (a_cons e_int (a_cons (e_glob (i := rpI) (m := (9999 : Int)) (v := .int 9999) G_GREATEST ⟨_, rfl⟩ (fun _ => rfl)) a_nil)))) (b_app1 4 rfl (e_tup2 (a_cons (e_var 6 rfl) (a_cons (e_var 7 rfl) a_nil)))
 (fun m5 => (b_set 5 nd (e_op add_I (e_var 6 rfl) e_int)
 (fun least_6 => (b_nil ((s3.1 ++ [m5]), least_6) (.cons (.refl _) (.cons (.refl _) (.cons (.refl _) (.cons (.refl _) (.cons (.refl _) (.cons (.refl _) (.cons (.no _) (.cons (.no _) .nil))))))))))))))))
 (fun s3 => (b_frz 4 rfl (b_fld 0 rfl (c2 T hC).1 (c2 T hC).2 (by first | decide | (simp only [List.map]; decide)) (by simp) (e_ct tuple_L T.f_tuple (a_cons (e_var 4 rfl) a_nil))
 (fun blocks_7 => (b_nil (s1, blocks_7.l) (.cons (.refl _) (.cons (.no _) (.cons (.no _) (.cons (.refl _) (.cons (.no _) (.cons (.no _) (.cons (.refl _) (.cons (.refl _) .nil)))))))))))))))))))⟩) ?_, bindsS U (fun _ _ _ _ _ us hl => match us, hl with | [_, _, _], _ => rfl)⟩⟩
  intro y post ep h
  dsimp only [endP, seqP, endI]
  have hl0 : orE (ckN y.1) (fB 0 y.2.1.l) = orE (ckN y.1) (fB 0 y.2.1.l) := rfl
  cases hc : ckN y.1 with
  | some n =>
    rw [hc] at h
    exact h
  | none =>
    rw [hc] at h
    have h : exO (fB 0 y.2.1.l) (post (y.1, y.2.1.l)) ep := h
    intro hz
    refine forP_ind (fun rest s => exO (fB s.2 rest) (post (y.1, s.1 ++ rest)) ep ∧ s.1.length + rest.length ≤ sizeLine) (fun s hi => ?_) (fun b r s next hn hi => ?_) _ _ ⟨h, by simpa using hz⟩
    · obtain ⟨h1, h2⟩ := hi
      have h1 : post (y.1, s.1 ++ []) := h1
      rw [List.append_nil] at h1
      exact ⟨by simpa using h2, h1⟩
    · obtain ⟨h1, h2⟩ := hi
      rw [List.length_cons] at h2
      by_cases a : s.2 ≤ b.1 ∧ b.1 ≤ 9999
      · rw [if_pos a]
        by_cases a2 : 0 ≤ b.2 ∧ b.2 ≤ 9999
        · rw [if_pos a2]
          rw [fB_cons a a2] at h1
          refine ⟨by omega, hn _ ⟨?_, ?_⟩⟩
          · show exO (fB (b.1 + 1) r) (post (y.1, (s.1 ++ [(b.1, b.2)]) ++ r)) ep
            rw [List.append_assoc]
            exact h1
          · show (s.1 ++ [(b.1, b.2)]).length + r.length ≤ sizeLine
            rw [List.length_append, List.length_singleton]
            omega
        · rw [if_neg a2]
          rw [fB_bad2 a a2] at h1
          exact h1
      · rw [if_neg a]
        rw [fB_bad1 a] at h1
        exact h1
theorem ok_FreeTariff_init_T (T : Txt K mg) : OkM pw w K mg base (He.fAd K ("FreeTariff", some "__init__")) 6 ["self", "rate", "blocks", "free"] (spJ K (okC1 K) (aCons rpI (aCons (rpT (i := (rp2 (i := rpI) (j := rpI)))) (aCons rpI aNil))) (fun s : Int × List (Int × Int) × Int => [fR s.1, fBl s.2.1, fFr s.2.2]) (fun x post ep => exO (orE (orE (ckN x.1) (fB 0 x.2.1.l)) (ckN x.2.2.1)) (post (x.1, x.2.1.l, x.2.2.1)) ep)) := by
  obtain ⟨fd_check_number, F_check_number, B_check_number⟩ := (ok_check_number (w := w) (base := base) T).ex
  have K_check_number := (ok_check_number (w := w) (base := base) T).kp
  have G_check_number := (ok_check_number (w := w) (base := base) T).gm
  obtain ⟨fd_sup, F_sup, B_sup⟩ := (ok_BlockTariff_init_T (w := w) (base := base) T).ex
  obtain ⟨t_GREATEST, G_GREATEST⟩ := T.i_GREATEST
  obtain ⟨fd, U⟩ := T.d_FreeTariff_init
  have nd := sc_FreeTariff_init.nd
  have ownF : ∀ (q C : Addr) (y : Int × (Tu (Int × Int)) × Int × Unit) (j : Nat) (z : Sl), ([.oi q C [], .val rpI y.1, .val (rpT (i := (rp2 (i := rpI) (j := rpI)))) y.2.1, .val rpI y.2.2.1, .no] : List Sl)[j + 1]? = some z → z.own = false := fun q C y j z => own_no (by simp [Sl.own]) j
  refine ⟨⟨fd, fnS_okJ (tail := [.no, .no, .no, .no]) U sc_FreeTariff_init (fun _ => rfl) (fun y q C A outer s H Hb G E hC hr => ⟨_, (js_supI rfl (okc12 hC) (supF_i T hC) rfl (ownF q C y) U sc_FreeTariff_init rfl T.f_super rfl T.x_fB_init F_sup (hr.mono (by decide)) B_sup takes_s (a_cons (e_var 1 rfl) (a_cons (e_var 2 rfl) a_nil))
 (fun s1 => (b_expr (e_call F_check_number (hr.mono (by decide)) G_check_number K_check_number B_check_number takes_s (a_cons (e_var 3 rfl) (a_cons e_int (a_cons (e_glob (i := rpI) (m := (9999 : Int)) (v := .int 9999) G_GREATEST ⟨_, rfl⟩ (fun _ => rfl)) a_nil)))) (b_fld 0 rfl (c1 T hC).1 (c1 T hC).2 (by first | decide | (simp only [List.map]; decide)) (by simp) (e_var 3 rfl)
 (fun free_2 => (b_nil (s1.1, s1.2, free_2) (.cons (.refl _) (.cons (.no _) (.cons (.no _) (.cons (.no _) (.cons (.refl _) .nil)))))))))))⟩) ?_, bindsS U (fun _ _ _ _ _ us hl => match us, hl with | [_, _, _, _], _ => rfl)⟩⟩
  intro y post ep h
  dsimp only [endP, seqP, endI]
  cases hc : orE (ckN y.1) (fB 0 y.2.1.l) with
  | some n =>
    rw [hc] at h
    exact h
  | none =>
    rw [hc] at h
    have h : exO (ckN y.2.2.1) (post (y.1, y.2.1.l, y.2.2.1)) ep := h
    show if 0 ≤ y.2.2.1 ∧ y.2.2.1 ≤ 9999 then _ else _
    by_cases a : 0 ≤ y.2.2.1 ∧ y.2.2.1 ≤ 9999
    · rw [ckN_pos a] at h
      rw [if_pos a]
      exact h
    · rw [ckN_neg a] at h
      rw [if_neg a]
      exact h
theorem sc_BlockTariff_price_of : NScope ["self", "units", "__class__", "price", "above", "extra"] ["self", "units"] [("__class__" : Str)] (defScope s_BlockTariff_price_of) := nscope_by (by decide +kernel)
theorem ok_BlockTariff_price_of (T : Txt K mg) : OkM pw w K mg base (He.fAd K ("BlockTariff", some "price_of")) 4 ["self", "units"] (spOf K rs0 (aCons rpTf (aCons rpI aNil)) rpI (fun x post ep => (x.1.kind ≠ 0 ∧ OkT x.1) ∧ (if x.2.1 < 0 then ep (eIN x.2.1) else post (bl x.2.1 (x.1.rate * x.2.1) x.1.blocks)))) := by
  obtain ⟨fd_sup, F_sup, B_sup⟩ := (ok_Tariff_price_of (w := w) (base := base) T).ex
  obtain ⟨fd, U⟩ := T.d_BlockTariff_price_of
  have nd := sc_BlockTariff_price_of.nd
  refine ⟨⟨fd, fnS_ok U sc_BlockTariff_price_of (fun _ => rfl) (fun y A outer s H G E hr => ⟨_, (js_set 3 nd (e_supM (fun m => m.kind ≠ 0) (supB_p T) rfl U sc_BlockTariff_price_of rfl T.f_super rfl (by decide) T.x_fT_price_of F_sup (hr.mono (by decide)) B_sup takes_s (a_cons (e_var 1 rfl) a_nil))
 (fun price_1 => (b_for (lpS := fun s2 : Int => [.val rpTf y.1, .val rpI y.2.1, .no, .val rpI s2, .no, .no]) price_1 (.cons (.refl _) (.cons (.refl _) (.cons (.refl _) (.cons (.refl _) (.cons (.refl _) (.cons (.refl _) .nil)))))) (passes_of rfl) rfl (i_tpl (e_fldC f_blocks (fc_blocks T) (e_var 0 rfl))) (g_tup2 rfl (g_name 4 nd) (g_name 5 nd))
 (fun x3 s2 => (b_set 3 nd (e_op add_I (e_var 3 rfl) (e_op mul_I (e_var 5 rfl) (e_cb (max_I rfl) T.f_max (a_cons e_int (a_cons (e_op sub_I (e_var 1 rfl) (e_var 4 rfl)) a_nil)))))
 (fun price_4 => (b_nil price_4 (.cons (.refl _) (.cons (.refl _) (.cons (.refl _) (.cons (.refl _) (.cons (.no _) (.cons (.no _) .nil))))))))))
 (fun s2 => (b_ret (e_var 3 rfl))))))⟩) ?_, bindsS U (fun _ _ _ _ _ us hl => match us, hl with | [_, _], _ => rfl)⟩⟩
  intro y post ep h
  dsimp only [endP, seqP, endI]
  obtain ⟨⟨h1, h2⟩, h3⟩ := h
  refine ⟨h1, h2.1, ?_⟩
  by_cases a : y.2.1 < 0
  · rw [if_pos a] at h3 ⊢
    exact h3
  · rw [if_neg a] at h3 ⊢
    refine ⟨h1, fun _ => ?_⟩
    refine forP_ind (fun rest s => (∀ b ∈ rest, okN b.2) ∧ post (bl y.2.1 s rest)) (fun s hi => hi.2) (fun b r s next hn hi => ?_) _ _ ⟨h2.2.2, h3⟩
    obtain ⟨k1, k2⟩ := hi
    have k3 := k1 b List.mem_cons_self
    unfold okN at k3
    exact ⟨.inl ⟨by omega, by omega⟩, hn _ ⟨fun c hc => k1 c (List.mem_cons_of_mem _ hc), k2⟩⟩
theorem sc_FreeTariff_price_of : NScope ["self", "units", "__class__"] ["self", "units"] [("__class__" : Str)] (defScope s_FreeTariff_price_of) := nscope_by (by decide +kernel)
theorem ok_FreeTariff_price_of (T : Txt K mg) : OkM pw w K mg base (He.fAd K ("FreeTariff", some "price_of")) 5 ["self", "units"] (spOf K rs0 (aCons rpTf (aCons rpI aNil)) rpI (fun x post ep => ((x.1.kind ≠ 0 ∧ x.1.kind ≠ 1) ∧ OkT x.1) ∧ (if x.2.1 < 0 then ep (eIN x.2.1) else post (bl (max 0 (x.2.1 - x.1.free)) (x.1.rate * max 0 (x.2.1 - x.1.free)) x.1.blocks)))) := by
  obtain ⟨fd_err, F_err, B_err⟩ := ok_err (w := w) (base := base) T
  obtain ⟨fd_sup, F_sup, B_sup⟩ := (ok_BlockTariff_price_of (w := w) (base := base) T).ex
  obtain ⟨fd, U⟩ := T.d_FreeTariff_price_of
  have nd := sc_FreeTariff_price_of.nd
  refine ⟨⟨fd, fnS_ok U sc_FreeTariff_price_of (fun _ => rfl) (fun y A outer s H G E hr => ⟨_, (js_if (mid := fun _ : Unit => [.val rpTf y.1, .val rpI y.2.1, .no]) (t_cmp lt_I (e_var 1 rfl) e_int (nomark _))
 (b_raise1 T.x_err rfl F_err (hr.mono (by decide)) B_err rfl T.g_InvalidNumber takes_s (e_var 1 rfl) b_never)
 (b_nil () (.cons (.refl _) (.cons (.refl _) (.cons (.refl _) .nil))))
 (fun _ => (js_ret (e_supM (fun m => m.kind ≠ 0 ∧ m.kind ≠ 1) (supF_p T) rfl U sc_FreeTariff_price_of rfl T.f_super rfl (by decide) T.x_fB_price_of F_sup (hr.mono (by decide)) B_sup takes_s (a_cons (e_cb (max_I rfl) T.f_max (a_cons e_int (a_cons (e_op sub_I (e_var 1 rfl) (e_fldC f_free (fc_free T) (e_var 0 rfl))) a_nil))) a_nil)))))⟩) ?_, bindsS U (fun _ _ _ _ _ us hl => match us, hl with | [_, _], _ => rfl)⟩⟩
  intro y post ep h
  dsimp only [endP, seqP, endI]
  obtain ⟨⟨h1, h2⟩, h3⟩ := h
  by_cases a : y.2.1 < 0
  · rw [if_pos a] at h3
    rw [if_pos (decide_eq_true a)]
    exact h3
  · rw [if_neg a] at h3
    rw [if_neg (by simpa using a)]
    refine ⟨h1, h1, ⟨h1.1, h2⟩, ?_⟩
    rw [if_neg (by omega)]
    exact h3
theorem d_price (T : Txt K mg) (x : Tf) : ¬ ("price_of" : Str) ∈ (fsT x).map (·.1) ∧ ∃ f fd, Cls K (clsT K x) ∧ Meth K (clsT K x) "price_of" f ∧ FnOk pw w K mg base (L2.CX pw w) 5 f fd ["self", "units"] (spC K clsT fsT (aCons rpI aNil) rpI (fun x post ep => OkT x.1 ∧ (if x.2.1 < 0 then ep (eIN x.2.1) else post (priceT x.1 x.2.1))) (clsT K x)) ∧ Binds K fd ["self", "units"] [] := by
  refine ⟨no_meth x, ?_⟩
  by_cases h0 : x.kind = 0
  · obtain ⟨fd, F, B⟩ := (ok_Tariff_price_of (w := w) (base := base) T).ex
    rw [cls0 h0]
    refine ⟨_, fd, T.c_Tariff, T.m_Tariff_price_of, okPhi (F.mono (by decide)) fun y post ep h => ?_, B⟩
    obtain ⟨h1, h2, h3⟩ := h
    have h4 := kind0 T h1
    refine ⟨h2.1, ?_⟩
    unfold priceT at h3
    rw [if_pos h4] at h3
    exact h3
  · by_cases h1 : x.kind = 1
    · obtain ⟨fd, F, B⟩ := (ok_BlockTariff_price_of (w := w) (base := base) T).ex
      rw [cls1 h1]
      refine ⟨_, fd, T.c_BlockTariff, T.m_BlockTariff_price_of, okPhi (F.mono (by decide)) fun y post ep h => ?_, B⟩
      obtain ⟨h1, h2, h3⟩ := h
      have h4 := kind1 T h1
      have h5 : y.1.kind ≠ 0 := by omega
      refine ⟨⟨h5, h2⟩, ?_⟩
      unfold priceT at h3
      rw [if_neg h5, if_pos h4] at h3
      exact h3
    · obtain ⟨fd, F, B⟩ := (ok_FreeTariff_price_of (w := w) (base := base) T).ex
      rw [cls2 h0 h1]
      refine ⟨_, fd, T.c_FreeTariff, T.m_FreeTariff_price_of, okPhi (F.mono (by decide)) fun y post ep h => ?_, B⟩
      obtain ⟨h1, h2, h3⟩ := h
      have h4 := kind2 T h1
      refine ⟨⟨h4, h2⟩, ?_⟩
      unfold priceT at h3
      rw [if_neg h4.1, if_neg h4.2] at h3
      exact h3
theorem sc_Tariff_call : FnScope ["self", "units"] ["self", "units"] (defScope s_Tariff_call) := ⟨rfl, rfl, rfl, by decide +kernel, rfl, by decide +kernel, by decide +kernel⟩
theorem ok_Tariff_call (T : Txt K mg) : OkM pw w K mg base (He.fAd K ("Tariff", some "__call__")) 6 ["self", "units"] (spOf K rs0 (aCons rpTf (aCons rpI aNil)) rpI (fun x post ep => OkT x.1 ∧ (if x.2.1 < 0 then ep (eIN x.2.1) else post (priceT x.1 x.2.1)))) := by
  have D_price := d_price (w := w) (base := base) T
  obtain ⟨fd, F⟩ := T.d_Tariff_call
  have nd := sc_Tariff_call.nd
  refine ⟨⟨fd, fn_ok F sc_Tariff_call (fun _ => rfl) (fun y cdv A outer s H G E hr => ⟨_, (b_ret (e_methD D_price (e_var 0 rfl) (hr.mono (by decide)) (takes_of rfl rfl rfl rfl) (a_cons (e_var 1 rfl) a_nil)))⟩) ?_, F.bindsN fun _ _ _ _ _ _ us hl => match us, hl with | [_, _], _ => rfl⟩⟩
  intro y post ep h
  dsimp only [endP, seqP, endI]
  exact h
theorem d_call (T : Txt K mg) (x : Tf) : ∃ f fd, StX.CallO K (clsT K x) f ∧ FnOk pw w K mg base (L2.CX pw w) 6 f fd ["self", "units"] (spC K clsT fsT (aCons rpI aNil) rpI (fun x post ep => OkT x.1 ∧ (if x.2.1 < 0 then ep (eIN x.2.1) else post (priceT x.1 x.2.1))) (clsT K x)) ∧ Binds K fd ["self", "units"] [] := by
  obtain ⟨fd, F, B⟩ := (ok_Tariff_call (w := w) (base := base) T).ex
  have m : Meth K (clsT K x) "__call__" (He.ma K (He.ga K "Tariff") "__call__") := by
    rcases clsT3 (K := K) x with h | h | h <;> rw [h]
    · exact T.m_Tariff_call
    · rw [← T.x_callB]
      exact T.m_BlockTariff_call
    · rw [← T.x_callF]
      exact T.m_FreeTariff_call
  exact ⟨_, fd, ⟨m.at_, m.fn, T.x_fT_call.fn⟩, okPhi F fun y post ep h => h.2, B⟩
theorem sc_law_bag : FnScope ["script", "seed", "great", "cell"] ["script"] (defScope s_law_bag) := ⟨rfl, rfl, rfl, by decide +kernel, rfl, by decide +kernel, by decide +kernel⟩
theorem ok_law_bag (T : Txt K mg) : Ok pw w K mg base "_law_bag" (He.fAd K ("_law_bag", none)) 1 ["script"] (spOf K rs0 (aCons rpQ aNil) (rpBg 2) (fun _ post _ => post ())) := by
  obtain ⟨fd, F⟩ := T.d_law_bag
  have nd := sc_law_bag.nd
  refine ⟨⟨fd, fn_ok F sc_law_bag (fun _ => rfl) (fun y cdv A outer s H G E hr => ⟨_, (b_set 1 nd e_int
 (fun seed_1 => (b_new rpI 2 nd (b_for (lpS := fun s2 : Int × (List Int) => [.val rpQ y.1, .val rpI s2.1, .ml rpI s2.2, .no]) (seed_1, []) (.cons (.refl _) (.cons (.refl _) (.cons (.refl _) (.cons (.refl _) .nil)))) (passes_of rfl) rfl (i_scr (e_var 0 rfl)) (g_name 3 nd)
 (fun x3 s2 => (b_set 1 nd (e_op mod_I (e_ct int_I T.f_int (a_cons (e_op add_I (e_op add_I (e_op mul_I (e_var 1 rfl) e_int) (e_op mod_I (e_var 3 rfl) e_int)) e_int) a_nil)) e_int)
 (fun seed_4 => (b_ifE (t_cmp ge_I (e_cb abs_I T.f_abs (a_cons (e_var 3 rfl) a_nil)) (e_op pow_I e_int e_int) (nomark _))
 (b_app1 2 rfl (e_cb abs_I T.f_abs (a_cons (e_var 3 rfl) a_nil))
 (fun m5 => (b_nil (seed_4, (s2.2 ++ [m5])) (.cons (.refl _) (.cons (.refl _) (.cons (.refl _) (.cons (.no _) .nil)))))))
 (b_nil (seed_4, s2.2) (.cons (.refl _) (.cons (.refl _) (.cons (.refl _) (.cons (.no _) .nil)))))))))
 (fun s2 => (b_frz 2 rfl (b_ret (e_bg2 (a_cons (e_var 2 rfl) (a_cons (e_var 1 rfl) (a_cons e_int a_nil)))))))))))⟩) ?_, F.bindsN fun _ _ _ _ _ _ us hl => match us, hl with | [_], _ => rfl⟩, F.kp, T.g_law_bag⟩
  intro y post ep h
  dsimp only [endP, seqP, endI]
  intro hz
  refine forP_ind (fun rest s => s.2.length + rest.length ≤ sizeLine) (fun s hi => ⟨by simpa using hi, h⟩) (fun b r s next hn hi => ?_) _ _ (by simpa using hz)
  rw [List.length_cons] at hi
  refine ⟨.inr ⟨by decide, by decide⟩, by decide, by decide, ⟨by decide, by decide, by decide⟩, ?_⟩
  by_cases a : decide ((10 : Int) ^ Int.toNat 18 ≤ if b < 0 then -b else b) = true
  · rw [if_pos a]
    refine ⟨by omega, hn _ ?_⟩
    show (s.2 ++ [_]).length + r.length ≤ sizeLine
    rw [List.length_append, List.length_singleton]
    omega
  · rw [if_neg a]
    exact hn _ (by show s.2.length + r.length ≤ sizeLine; omega)
theorem sc_law_take : FnScope ["bag", "many", "great", "digit", "number"] ["bag", "many"] (defScope s_law_take) := ⟨rfl, rfl, rfl, by decide +kernel, rfl, by decide +kernel, by decide +kernel⟩
theorem ok_law_take (T : Txt K mg) : Ok pw w K mg base "_law_take" (He.fAd K ("_law_take", none)) 1 ["bag", "many"] (spR K (rsG 2) (fun q => (aRf q (aCons rpI aNil))) rpI (fun x post _ => (0 < x.1 ∧ x.1 < 1073741824) ∧ ∀ r : Int, 0 ≤ r → r < x.1 → post r)) := by
  obtain ⟨fd, F⟩ := T.d_law_take
  have nd := sc_law_take.nd
  refine ⟨⟨fd, fn_okR F sc_law_take (fun _ _ => rfl) (fun q y cdv A outer s H G E hr => b_bgTake (ρ' := [.rf q, .val rpI y.1, .no, .no, .no]) rfl rfl rfl (by show 3 < 5; decide) rfl (fun tr hr => ⟨_, pss_cons (ps_set nd rfl (.inl rfl) (pe_ix ix_list (pe_var rfl (.inl rfl) (by decide) (by decide)) pe_int (fun _ _ => rfl))) (pss_cons (ps_if (pt_truth (pe_var rfl (.inl rfl) (by decide) (by decide)) (fun _ => rfl))
      (pss_cons (ps_set nd rfl (.inl rfl) (pe_op op_mod (pe_callTy call_int1 rfl T.f_int (by decide +kernel) (pa_cons (pe_ix ix_list (pe_var rfl (.inl rfl) (by decide) (by decide)) pe_int (fun _ _ => rfl)) pa_nil)) (pe_var rfl (.inl rfl) (by decide) (by decide))))
      (pss_cons (ps_asg (pe_op op_fdiv (pe_ix ix_list (pe_var rfl (.inl rfl) (by decide) (by decide)) pe_int (fun _ _ => rfl)) (pe_var rfl (.inl rfl) (by decide) (by decide))) (pg_sub (pe_var rfl (.inl rfl) (by decide) (by decide)) pe_int set_list))
      (pss_cons (ps_if (pt_cmpR op_eq (pe_ix ix_list (pe_var rfl (.inl rfl) (by decide) (by decide)) pe_int (fun _ _ => rfl)) pe_int (nomark _)) (pss_cons (ps_expr (pe_bm PySem.F.plainAttrs_list PySem.F.slot_list_pop PySem.F.type_list_pop mt_popAt (pe_var rfl (.inl rfl) (by decide) (by decide)) (pa_cons pe_int pa_nil))) pss_nil) pss_nil)
      (pss_cons (ps_ret (pe_var rfl (.inl rfl) (by decide) (by decide))) pss_never)))) pss_nil) hr), fun D σ H h => h⟩)
    (b_bgSet (k := 1) 0 rfl rfl (by decide) (e_op add_I (e_bgI (k := 1) 0 rfl rfl (by decide)) e_int)
    (b_bgSet (k := 0) 0 rfl rfl (by decide) (e_op mod_I (e_ct int_I T.f_int (a_cons (e_op add_I (e_op mul_I (e_bgI (k := 0) 0 rfl rfl (by decide)) e_int) (e_op mul_I (e_bgI (k := 1) 0 rfl rfl (by decide)) e_int)) a_nil)) e_int)
    (b_set 4 nd (e_op mod_I (e_ct int_I T.f_int (a_cons (e_op add_I (e_op mul_I (e_op fdiv_I (e_bgI (k := 0) 0 rfl rfl (by decide)) e_int) e_int) (e_op mul_I (e_bgI (k := 1) 0 rfl rfl (by decide)) e_int)) a_nil)) e_int)
    (fun n => b_ret (e_op mod_I (e_op fdiv_I (e_var 4 rfl) e_int) (e_var 1 rfl)))))) ) ?_, F.bindsN fun _ _ _ _ _ _ us hl => match us, hl with | [_, _], _ => rfl⟩, F.kp, T.g_law_take⟩
  intro y post ep h
  dsimp only [endP, seqP]
  obtain ⟨h1, h2⟩ := h
  have c : ∀ (n k : Int), 0 ≤ k → k < 1000000 → CMul n k := fun n k k1 k2 => .inr ⟨by omega, by omega⟩
  exact ⟨h1, h2, fun _ n => ⟨c _ _ (by decide) (by decide), fun n => ⟨c _ _ (by decide) (by decide), by decide, fun n => ⟨⟨by decide, by decide⟩, c _ _ (by decide) (by decide), fun n' => ⟨c _ _ (by decide) (by decide), by decide, ⟨by decide, by decide⟩, h1.1, h2 _ (Int.emod_nonneg _ (by omega)) (Int.emod_lt_of_pos _ h1.1)⟩⟩⟩⟩⟩

theorem sc_law_number : FnScope ["bag", "way"] ["bag"] (defScope s_law_number) := ⟨rfl, rfl, rfl, by decide +kernel, rfl, by decide +kernel, by decide +kernel⟩
theorem ok_law_number (T : Txt K mg) : Ok pw w K mg base "_law_number" (He.fAd K ("_law_number", none)) 2 ["bag"] (spR K (rsG 2) (fun q => (aRf q aNil)) rpI (fun _ post _ => ∀ n : Int, okN n → post n)) := by
  obtain ⟨fd_law_take, F_law_take, B_law_take⟩ := (ok_law_take (w := w) (base := base) T).ex
  have K_law_take := (ok_law_take (w := w) (base := base) T).kp
  have G_law_take := (ok_law_take (w := w) (base := base) T).gm
  obtain ⟨fd, F⟩ := T.d_law_number
  have nd := sc_law_number.nd
  refine ⟨⟨fd, fn_okR F sc_law_number (fun _ _ => rfl) (fun q y cdv A outer s H G E hr => ⟨_, (b_set 1 nd (e_callR rfl F_law_take (hr.mono (by decide)) G_law_take K_law_take B_law_take (takes_of rfl rfl rfl rfl) (a_rf 0 rfl (a_cons e_int a_nil)))
 (fun way_1 => (b_if (mid := fun s2 : Unit => [.rf q, .val rpI way_1]) (t_cmp lt_I (e_var 1 rfl) e_int (nomark _))
 (b_ret (e_ix ix_L (e_list (iα := rpI) (a_cons e_int (a_cons e_int (a_cons e_int (a_cons e_int a_nil)))) (.cons (.cons (.cons (.cons .nil))))) (e_var 1 rfl)))
 (b_nil () (.cons (.refl _) (.cons (.refl _) .nil)))
 (fun s2 => (b_if (mid := fun s3 : Unit => [.rf q, .val rpI way_1]) (t_cmp eq_V (e_var 1 rfl) e_int (nomark _))
 (b_ret e_int)
 (b_nil () (.cons (.refl _) (.cons (.refl _) .nil)))
 (fun s3 => (b_ret (e_callR rfl F_law_take (hr.mono (by decide)) G_law_take K_law_take B_law_take (takes_of rfl rfl rfl rfl) (a_rf 0 rfl (a_cons e_int a_nil))))))))))⟩) ?_, F.bindsN fun _ _ _ _ _ _ us hl => match us, hl with | [_], _ => rfl⟩, F.kp, T.g_law_number⟩
  intro y post ep h
  dsimp only [endP, seqP, endI]
  refine ⟨⟨by decide, by decide⟩, fun r r1 r2 => ?_⟩
  split
  · rename_i a
    have a := of_decide_eq_true a
    refine ⟨by show 4 ≤ sizeLine; decide, ?_⟩
    obtain ⟨m, e1, e2⟩ := atI_ok (xs := [(0 : Int), 1, 9998, 9999]) r1 (by show r < 4; omega)
    refine ⟨m, e1, h m ?_⟩
    unfold okN
    simp only [List.mem_cons, List.not_mem_nil, or_false] at e2
    omega
  · split
    · exact h _ (by unfold okN; omega)
    · exact ⟨⟨by decide, by decide⟩, fun n n1 n2 => h n (by unfold okN; omega)⟩
theorem sc_law_wrong : FnScope ["bag", "beyond"] ["bag"] (defScope s_law_wrong) := ⟨rfl, rfl, rfl, by decide +kernel, rfl, by decide +kernel, by decide +kernel⟩
theorem ok_law_wrong (T : Txt K mg) : Ok pw w K mg base "_law_wrong" (He.fAd K ("_law_wrong", none)) 2 ["bag"] (spR K (rsG 2) (fun q => (aRf q aNil)) rpI (fun _ post _ => ∀ n : Int, post n)) := by
  obtain ⟨fd_law_take, F_law_take, B_law_take⟩ := (ok_law_take (w := w) (base := base) T).ex
  have K_law_take := (ok_law_take (w := w) (base := base) T).kp
  have G_law_take := (ok_law_take (w := w) (base := base) T).gm
  obtain ⟨fd, F⟩ := T.d_law_wrong
  have nd := sc_law_wrong.nd
  refine ⟨⟨fd, fn_okR F sc_law_wrong (fun _ _ => rfl) (fun q y cdv A outer s H G E hr => ⟨_, (b_if (mid := fun s1 : Unit => [.rf q, .no]) (t_cmp eq_V (e_callR rfl F_law_take (hr.mono (by decide)) G_law_take K_law_take B_law_take (takes_of rfl rfl rfl rfl) (a_rf 0 rfl (a_cons e_int a_nil))) e_int (nomark _))
 (b_ret (e_op mul_I (e_callR rfl F_law_take (hr.mono (by decide)) G_law_take K_law_take B_law_take (takes_of rfl rfl rfl rfl) (a_rf 0 rfl (a_cons e_int a_nil))) e_int))
 (b_nil () (.cons (.refl _) (.cons (.refl _) .nil)))
 (fun s1 => (b_set 1 nd e_int
 (fun beyond_2 => (b_if (mid := fun s3 : Int => [.rf q, .val rpI s3]) (t_cmp eq_V (e_callR rfl F_law_take (hr.mono (by decide)) G_law_take K_law_take B_law_take (takes_of rfl rfl rfl rfl) (a_rf 0 rfl (a_cons e_int a_nil))) e_int (nomark _))
 (b_set 1 nd (e_callR rfl F_law_take (hr.mono (by decide)) G_law_take K_law_take B_law_take (takes_of rfl rfl rfl rfl) (a_rf 0 rfl (a_cons e_int a_nil)))
 (fun beyond_4 => (b_nil beyond_4 (.cons (.refl _) (.cons (.refl _) .nil)))))
 (b_nil beyond_2 (.cons (.refl _) (.cons (.refl _) .nil)))
 (fun s3 => (b_if (mid := fun s5 : Unit => [.rf q, .val rpI s3]) (t_cmp eq_V (e_callR rfl F_law_take (hr.mono (by decide)) G_law_take K_law_take B_law_take (takes_of rfl rfl rfl rfl) (a_rf 0 rfl (a_cons e_int a_nil))) e_int (nomark _))
 (b_ret (e_op sub_I (e_un neg_I e_int) (e_var 1 rfl)))
 (b_nil () (.cons (.refl _) (.cons (.refl _) .nil)))
 (fun s5 => (b_ret (e_op add_I e_int (e_var 1 rfl)))))))))))⟩) ?_, F.bindsN fun _ _ _ _ _ _ us hl => match us, hl with | [_], _ => rfl⟩, F.kp, T.g_law_wrong⟩
  intro y post ep h
  dsimp only [endP, seqP, endI]
  refine ⟨⟨by decide, by decide⟩, fun r r1 r2 => ?_⟩
  split
  · exact ⟨⟨by decide, by decide⟩, fun r r1 r2 => ⟨.inr ⟨by decide, by decide⟩, h _⟩⟩
  · refine ⟨⟨by decide, by decide⟩, fun r r1 r2 => ?_⟩
    split
    · refine ⟨⟨by decide, by decide⟩, fun r r1 r2 => ⟨⟨by decide, by decide⟩, fun r r1 r2 => ?_⟩⟩
      split <;> exact h _
    · refine ⟨⟨by decide, by decide⟩, fun r r1 r2 => ?_⟩
      split <;> exact h _
theorem sc_law_blocks : FnScope ["bag", "many", "above", "way", "step", "found", "turn"] ["bag"] (defScope s_law_blocks) := ⟨rfl, rfl, rfl, by decide +kernel, rfl, by decide +kernel, by decide +kernel⟩
theorem ok_law_blocks (T : Txt K mg) : Ok pw w K mg base "_law_blocks" (He.fAd K ("_law_blocks", none)) 3 ["bag"] (spR K (rsG 2) (fun q => (aRf q aNil)) (rpT (i := (rp2 (i := rpI) (j := rpI)))) (fun _ post _ => ∀ bs : List (Int × Int), fB 0 bs = none → bs.length ≤ 100 → post ⟨bs⟩)) := by
  obtain ⟨fd_law_take, F_law_take, B_law_take⟩ := (ok_law_take (w := w) (base := base) T).ex
  have K_law_take := (ok_law_take (w := w) (base := base) T).kp
  have G_law_take := (ok_law_take (w := w) (base := base) T).gm
  obtain ⟨fd_law_number, F_law_number, B_law_number⟩ := (ok_law_number (w := w) (base := base) T).ex
  have K_law_number := (ok_law_number (w := w) (base := base) T).kp
  have G_law_number := (ok_law_number (w := w) (base := base) T).gm
  obtain ⟨fd, F⟩ := T.d_law_blocks
  have nd := sc_law_blocks.nd
  refine ⟨⟨fd, fn_okR F sc_law_blocks (fun _ _ => rfl) (fun q y cdv A outer s H G E hr => ⟨_, (b_set 1 nd (e_callR rfl F_law_take (hr.mono (by decide)) G_law_take K_law_take B_law_take (takes_of rfl rfl rfl rfl) (a_rf 0 rfl (a_cons e_int a_nil)))
 (fun many_1 => (b_if (mid := fun s2 : Int => [.rf q, .val rpI s2, .no, .no, .no, .no, .no]) (t_cmp eq_V (e_callR rfl F_law_take (hr.mono (by decide)) G_law_take K_law_take B_law_take (takes_of rfl rfl rfl rfl) (a_rf 0 rfl (a_cons e_int a_nil))) e_int (nomark _))
 (b_set 1 nd (e_op add_I e_int (e_callR rfl F_law_take (hr.mono (by decide)) G_law_take K_law_take B_law_take (takes_of rfl rfl rfl rfl) (a_rf 0 rfl (a_cons e_int a_nil))))
 (fun many_3 => (b_nil many_3 (.cons (.refl _) (.cons (.refl _) (.cons (.refl _) (.cons (.refl _) (.cons (.refl _) (.cons (.refl _) (.cons (.refl _) .nil))))))))))
 (b_nil many_1 (.cons (.refl _) (.cons (.refl _) (.cons (.refl _) (.cons (.refl _) (.cons (.refl _) (.cons (.refl _) (.cons (.refl _) .nil))))))))
 (fun s2 => (b_set 2 nd e_int
 (fun above_4 => (b_set 3 nd (e_callR rfl F_law_take (hr.mono (by decide)) G_law_take K_law_take B_law_take (takes_of rfl rfl rfl rfl) (a_rf 0 rfl (a_cons e_int a_nil)))
 (fun way_5 => (b_if (mid := fun s6 : Int => [.rf q, .val rpI s2, .val rpI s6, .val rpI way_5, .no, .no, .no]) (t_cmp eq_V (e_var 3 rfl) e_int (nomark _))
 (b_set 2 nd (e_callR rfl F_law_take (hr.mono (by decide)) G_law_take K_law_take B_law_take (takes_of rfl rfl rfl rfl) (a_rf 0 rfl (a_cons e_int a_nil)))
 (fun above_7 => (b_nil above_7 (.cons (.refl _) (.cons (.refl _) (.cons (.refl _) (.cons (.refl _) (.cons (.refl _) (.cons (.refl _) (.cons (.refl _) .nil))))))))))
 (b_ifE (t_cmp eq_V (e_var 3 rfl) e_int (nomark _))
 (b_set 2 nd (e_callR rfl F_law_take (hr.mono (by decide)) G_law_take K_law_take B_law_take (takes_of rfl rfl rfl rfl) (a_rf 0 rfl (a_cons e_int a_nil)))
 (fun above_8 => (b_nil above_8 (.cons (.refl _) (.cons (.refl _) (.cons (.refl _) (.cons (.refl _) (.cons (.refl _) (.cons (.refl _) (.cons (.refl _) .nil))))))))))
 (b_nil above_4 (.cons (.refl _) (.cons (.refl _) (.cons (.refl _) (.cons (.refl _) (.cons (.refl _) (.cons (.refl _) (.cons (.refl _) .nil)))))))))
 (fun s6 => (b_set 4 nd (e_ix ix_L (e_list (iα := rpI) (a_cons e_int (a_cons e_int (a_cons e_int a_nil))) (.cons (.cons (.cons .nil)))) (e_callR rfl F_law_take (hr.mono (by decide)) G_law_take K_law_take B_law_take (takes_of rfl rfl rfl rfl) (a_rf 0 rfl (a_cons e_int a_nil))))
 (fun step_9 => (b_new (rp2 (i := rpI) (j := rpI)) 5 nd (b_for (lpS := fun s10 : Int × (List (Int × Int)) => [.rf q, .val rpI s2, .val rpI s10.1, .val rpI way_5, .val rpI step_9, .ml (rp2 (i := rpI) (j := rpI)) s10.2, .no]) (s6, []) (.cons (.refl _) (.cons (.refl _) (.cons (.refl _) (.cons (.refl _) (.cons (.refl _) (.cons (.refl _) (.cons (.refl _) .nil))))))) (passes_of rfl) rfl (i_rng1 (by rfl) T.f_range (a_cons (e_var 1 rfl) a_nil)) (g_name 6 nd)
 (fun x11 s10 => (b_ifE (t_cmp le_I (e_var 2 rfl) e_int (nomark _))
 (b_app1 5 rfl (e_tup2 (a_cons (e_var 2 rfl) (a_cons (e_callR rfl F_law_number (hr.mono (by decide)) G_law_number K_law_number B_law_number (takes_of rfl rfl rfl rfl) (a_rf 0 rfl a_nil)) a_nil)))
 (fun m12 => (b_set 2 nd (e_op add_I (e_op add_I (e_var 2 rfl) e_int) (e_callR rfl F_law_take (hr.mono (by decide)) G_law_take K_law_take B_law_take (takes_of rfl rfl rfl rfl) (a_rf 0 rfl (a_cons (e_var 4 rfl) a_nil))))
 (fun above_13 => (b_nil (above_13, (s10.2 ++ [m12])) (.cons (.refl _) (.cons (.refl _) (.cons (.refl _) (.cons (.refl _) (.cons (.refl _) (.cons (.refl _) (.cons (.no _) .nil))))))))))))
 (b_nil (s10.1, s10.2) (.cons (.refl _) (.cons (.refl _) (.cons (.refl _) (.cons (.refl _) (.cons (.refl _) (.cons (.refl _) (.cons (.no _) .nil))))))))))
 (fun s10 => (b_if (mid := fun s14 : (List (Int × Int)) => [.rf q, .val rpI s2, .val rpI s10.1, .val rpI way_5, .val rpI step_9, .ml (rp2 (i := rpI) (j := rpI)) s14, .no]) (t_pw (tw_and (t_ml (j := 5) rfl) (tw_and1 (t_cmp eq_V (e_callR rfl F_law_take (hr.mono (by decide)) G_law_take K_law_take B_law_take (takes_of rfl rfl rfl rfl) (a_rf 0 rfl (a_cons e_int a_nil))) e_int (nomark _)))))
 (b_setM 5 rfl (e_tup2 (a_cons e_int (a_cons (e_ix ix_2b (e_ixM (j := 5) rfl (e_un neg_I e_int)) e_int) a_nil))) (e_un neg_I e_int)
 (fun m15 k16 => (b_nil (setN s10.2 k16 m15) (.cons (.refl _) (.cons (.refl _) (.cons (.refl _) (.cons (.refl _) (.cons (.refl _) (.cons (.refl _) (.cons (.refl _) .nil))))))))))
 (b_nil s10.2 (.cons (.refl _) (.cons (.refl _) (.cons (.refl _) (.cons (.refl _) (.cons (.refl _) (.cons (.refl _) (.cons (.refl _) .nil))))))))
 (fun s14 => (b_frz 5 rfl (b_ret (e_ct tuple_L T.f_tuple (a_cons (e_var 5 rfl) a_nil)))))))))))))))))))))⟩) ?_, F.bindsN fun _ _ _ _ _ _ us hl => match us, hl with | [_], _ => rfl⟩, F.kp, T.g_law_blocks⟩
  intro y post ep h
  dsimp only [endP, seqP, endI]
  have VB : ∀ (n : Nat) (a0 m : Int), n ≤ 60 → 0 ≤ a0 → 0 < m ∧ m < 1073741824 → forP
      (fun (_ : Int) (s : Int × List (Int × Int)) (post : Out (Int × List (Int × Int)) (Int × List (Int × Int)) (Tu (Int × Int)) → Prop) (ep : Exn → Prop) => if decide (s.1 ≤ 9999) = true then ∀ n : Int, okN n → s.2.length < sizeLine ∧ (0 < m ∧ m < 1073741824) ∧ ∀ r : Int, 0 ≤ r → r < m → post (.nx (s.1 + 1 + r, s.2 ++ [(s.1, n)])) else post (.nx (s.1, s.2)))
      (fun s => if (!s.2.isEmpty) = true then ((0 : Int) < 8 ∧ (8 : Int) < 1073741824) ∧ ∀ r : Int, 0 ≤ r → r < 8 → if decide (r = 0) = true then ∃ m, atI s.2 (-1) = some m ∧ (1 : Int) = 1 ∧ (ixN s.2.length (-1)).isSome = true ∧ (setN s.2 (-1) (9999, m.2)).length ≤ sizeLine ∧ post ⟨setN s.2 (-1) (9999, m.2)⟩ else s.2.length ≤ sizeLine ∧ post ⟨s.2⟩ else s.2.length ≤ sizeLine ∧ post ⟨s.2⟩)
      (fun b => post b) ep (rangeI 0 n) (a0, []) := fun n a0 m hn h0 hm => by
    refine forP_ind (fun rest s => fB 0 s.2 = none ∧ (∀ b ∈ s.2, b.1 < s.1) ∧ 0 ≤ s.1 ∧ s.2.length + rest.length ≤ 60) (fun s hi => ?_) (fun x r s next hx hi => ?_) _ _ ⟨rfl, fun _ h => (nomatch h), h0, by rw [rangeI_len]; simpa using hn⟩
    · obtain ⟨i1, i2, i3, i4⟩ := hi
      have i4 : s.2.length ≤ 60 := by simpa using i4
      have plain : s.2.length ≤ sizeLine ∧ post ⟨s.2⟩ := ⟨by rw [sizeLine_eq]; omega, h _ i1 (by omega)⟩
      split
      · refine ⟨⟨by decide, by decide⟩, fun r r1 r2 => ?_⟩
        split
        · obtain ⟨bs, b, e⟩ : ∃ bs b, s.2 = bs ++ [b] := by
            rcases List.eq_nil_or_concat s.2 with e | ⟨bs, b, e⟩
            · rename_i q _
              rw [e] at q
              cases q
            · exact ⟨bs, b, by rw [e, List.concat_eq_append]⟩
          rw [e] at i1 i4 ⊢
          obtain ⟨k1, k2, k3, k4, k5⟩ := fB_init i1
          obtain ⟨e1, e2⟩ := setN_last (xs := bs) (m := b) (n := ((9999 : Int), b.2))
          rw [List.length_append, List.length_singleton] at i4
          refine ⟨b, atI_last, rfl, e2, ?_⟩
          rw [e1]
          refine ⟨by rw [List.length_append, List.length_singleton, sizeLine_eq]; omega, h _ (fB_snoc k1 (fun c hc => by have := k2 c hc; omega) (by decide) (by decide) k5) (by rw [List.length_append, List.length_singleton]; omega)⟩
        · exact plain
      · exact plain
    · obtain ⟨i1, i2, i3, i4⟩ := hi
      rw [List.length_cons] at i4
      split
      · rename_i q
        have q := of_decide_eq_true q
        intro n hn
        refine ⟨by rw [sizeLine_eq]; omega, hm, fun r r1 r2 => hx _ ⟨fB_snoc i1 i2 i3 q hn, fun b hb => ?_, by show 0 ≤ s.1 + 1 + r; omega, by show (s.2 ++ [_]).length + _ ≤ 60; rw [List.length_append, List.length_singleton]; omega⟩⟩
        rcases List.mem_append.mp hb with hb | hb
        · have := i2 b hb
          show b.1 < s.1 + 1 + r
          omega
        · rw [List.mem_singleton.mp hb]
          show s.1 < s.1 + 1 + r
          omega
      · exact hx _ ⟨i1, i2, i3, by show s.2.length + _ ≤ 60; omega⟩
  have st : ∀ r : Int, 0 ≤ r → r < 3 → ∃ m, atI [(1 : Int), 40, 3000] r = some m ∧ (0 < m ∧ m < 1073741824) := fun r r1 r2 => by
    obtain ⟨m, m1, m2⟩ := atI_ok (xs := [(1 : Int), 40, 3000]) r1 (by show r < 3; omega)
    refine ⟨m, m1, ?_⟩
    simp only [List.mem_cons, List.not_mem_nil, or_false] at m2
    omega
  refine ⟨⟨by decide, by decide⟩, fun n n1 n2 => ⟨⟨by decide, by decide⟩, fun d d1 d2 => ?_⟩⟩
  by_cases c0 : d = 0
  · rw [if_pos (decide_eq_true c0)]
    refine ⟨⟨by decide, by decide⟩, fun e e1 e2 => ?_⟩
    refine ⟨⟨by decide, by decide⟩, fun r r1 r2 => ?_⟩
    by_cases c1 : r = 1
    · rw [if_pos (decide_eq_true c1)]
      refine ⟨⟨by decide, by decide⟩, fun a a1 a2 => ⟨by show 3 ≤ sizeLine; decide, ⟨by decide, by decide⟩, fun q s1 s2 => ?_⟩⟩
      obtain ⟨m, m1, m2⟩ := st q s1 s2
      exact ⟨m, m1, ⟨by omega, by omega⟩, VB _ a m (by omega) a1 m2⟩
    · rw [if_neg (by simpa using c1)]
      by_cases c2 : r = 2
      · rw [if_pos (decide_eq_true c2)]
        refine ⟨⟨by decide, by decide⟩, fun a a1 a2 => ⟨by show 3 ≤ sizeLine; decide, ⟨by decide, by decide⟩, fun q s1 s2 => ?_⟩⟩
        obtain ⟨m, m1, m2⟩ := st q s1 s2
        exact ⟨m, m1, ⟨by omega, by omega⟩, VB _ a m (by omega) a1 m2⟩
      · rw [if_neg (by simpa using c2)]
        refine ⟨by show 3 ≤ sizeLine; decide, ⟨by decide, by decide⟩, fun q s1 s2 => ?_⟩
        obtain ⟨m, m1, m2⟩ := st q s1 s2
        exact ⟨m, m1, ⟨by omega, by omega⟩, VB _ 0 m (by omega) (by decide) m2⟩
  · rw [if_neg (by simpa using c0)]
    refine ⟨⟨by decide, by decide⟩, fun r r1 r2 => ?_⟩
    by_cases c1 : r = 1
    · rw [if_pos (decide_eq_true c1)]
      refine ⟨⟨by decide, by decide⟩, fun a a1 a2 => ⟨by show 3 ≤ sizeLine; decide, ⟨by decide, by decide⟩, fun q s1 s2 => ?_⟩⟩
      obtain ⟨m, m1, m2⟩ := st q s1 s2
      exact ⟨m, m1, ⟨by omega, by omega⟩, VB _ a m (by omega) a1 m2⟩
    · rw [if_neg (by simpa using c1)]
      by_cases c2 : r = 2
      · rw [if_pos (decide_eq_true c2)]
        refine ⟨⟨by decide, by decide⟩, fun a a1 a2 => ⟨by show 3 ≤ sizeLine; decide, ⟨by decide, by decide⟩, fun q s1 s2 => ?_⟩⟩
        obtain ⟨m, m1, m2⟩ := st q s1 s2
        exact ⟨m, m1, ⟨by omega, by omega⟩, VB _ a m (by omega) a1 m2⟩
      · rw [if_neg (by simpa using c2)]
        refine ⟨by show 3 ≤ sizeLine; decide, ⟨by decide, by decide⟩, fun q s1 s2 => ?_⟩
        obtain ⟨m, m1, m2⟩ := st q s1 s2
        exact ⟨m, m1, ⟨by omega, by omega⟩, VB _ 0 m (by omega) (by decide) m2⟩
theorem sc_law_plan : FnScope ["bag", "kind", "blocks", "unpaid"] ["bag"] (defScope s_law_plan) := ⟨rfl, rfl, rfl, by decide +kernel, rfl, by decide +kernel, by decide +kernel⟩
theorem ok_law_plan (T : Txt K mg) : Ok pw w K mg base "_law_plan" (He.fAd K ("_law_plan", none)) 4 ["bag"] (spR K (rsG 2) (fun q => (aRf q aNil)) rpPl (fun _ post _ => ∀ p : Pl, OkP p → post p)) := by
  obtain ⟨fd_law_take, F_law_take, B_law_take⟩ := (ok_law_take (w := w) (base := base) T).ex
  have K_law_take := (ok_law_take (w := w) (base := base) T).kp
  have G_law_take := (ok_law_take (w := w) (base := base) T).gm
  obtain ⟨fd_law_blocks, F_law_blocks, B_law_blocks⟩ := (ok_law_blocks (w := w) (base := base) T).ex
  have K_law_blocks := (ok_law_blocks (w := w) (base := base) T).kp
  have G_law_blocks := (ok_law_blocks (w := w) (base := base) T).gm
  obtain ⟨fd_law_number, F_law_number, B_law_number⟩ := (ok_law_number (w := w) (base := base) T).ex
  have K_law_number := (ok_law_number (w := w) (base := base) T).kp
  have G_law_number := (ok_law_number (w := w) (base := base) T).gm
  obtain ⟨fd, F⟩ := T.d_law_plan
  have nd := sc_law_plan.nd
  refine ⟨⟨fd, fn_okR F sc_law_plan (fun _ _ => rfl) (fun q y cdv A outer s H G E hr => ⟨_, (b_set 1 nd (e_callR rfl F_law_take (hr.mono (by decide)) G_law_take K_law_take B_law_take (takes_of rfl rfl rfl rfl) (a_rf 0 rfl (a_cons e_int a_nil)))
 (fun kind_1 => (b_set 2 nd (e_tupT a_nil .nil)
 (fun blocks_2 => (b_set 3 nd e_int
 (fun unpaid_3 => (b_if (mid := fun s4 : (Tu (Int × Int)) => [.rf q, .val rpI kind_1, .val (rpT (i := (rp2 (i := rpI) (j := rpI)))) s4, .val rpI unpaid_3]) (t_cmp gt_I (e_var 1 rfl) e_int (nomark _))
 (b_set 2 nd (e_callR rfl F_law_blocks (hr.mono (by decide)) G_law_blocks K_law_blocks B_law_blocks (takes_of rfl rfl rfl rfl) (a_rf 0 rfl a_nil))
 (fun blocks_5 => (b_nil blocks_5 (.cons (.refl _) (.cons (.refl _) (.cons (.refl _) (.cons (.refl _) .nil)))))))
 (b_nil blocks_2 (.cons (.refl _) (.cons (.refl _) (.cons (.refl _) (.cons (.refl _) .nil)))))
 (fun s4 => (b_if (mid := fun s6 : Int => [.rf q, .val rpI kind_1, .val (rpT (i := (rp2 (i := rpI) (j := rpI)))) s4, .val rpI s6]) (t_cmp eq_V (e_var 1 rfl) e_int (nomark _))
 (b_set 3 nd (e_callR rfl F_law_number (hr.mono (by decide)) G_law_number K_law_number B_law_number (takes_of rfl rfl rfl rfl) (a_rf 0 rfl a_nil))
 (fun unpaid_7 => (b_nil unpaid_7 (.cons (.refl _) (.cons (.refl _) (.cons (.refl _) (.cons (.refl _) .nil)))))))
 (b_nil unpaid_3 (.cons (.refl _) (.cons (.refl _) (.cons (.refl _) (.cons (.refl _) .nil)))))
 (fun s6 => (b_ret (e_tupX4 (a_cons (e_var 1 rfl) (a_cons (e_callR rfl F_law_number (hr.mono (by decide)) G_law_number K_law_number B_law_number (takes_of rfl rfl rfl rfl) (a_rf 0 rfl a_nil)) (a_cons (e_var 2 rfl) (a_cons (e_var 3 rfl) a_nil))))))))))))))))⟩) ?_, F.bindsN fun _ _ _ _ _ _ us hl => match us, hl with | [_], _ => rfl⟩, F.kp, T.g_law_plan⟩
  intro y post ep h
  dsimp only [endP, seqP, endI]
  refine ⟨⟨by decide, by decide⟩, fun r r1 r2 => ⟨Nat.zero_le _, ?_⟩⟩
  have z0 : okN 0 := by unfold okN; omega
  split
  · rename_i a
    have a := of_decide_eq_true a
    intro bs b1 b2
    split
    · rename_i b
      have b := of_decide_eq_true b
      intro n n1 n2 n3
      refine h _ ⟨⟨.inr (.inr b), fun z => ?_, fun z => absurd b z, b2⟩, ?_⟩
      · have z : r = 0 := z
        omega
      · unfold fL
        rw [ckN_pos n3, ckN_pos n1]
        exact (orE_right _).trans b1
    · rename_i b
      have b : ¬ r = 2 := by simpa using b
      intro n n1
      refine h _ ⟨⟨by show r = 0 ∨ r = 1 ∨ r = 2; omega, fun z => ?_, fun _ => rfl, b2⟩, ?_⟩
      · have z : r = 0 := z
        omega
      · unfold fL
        rw [ckN_pos n1, ckN_pos z0]
        exact (orE_right _).trans b1
  · rename_i a
    have a : ¬ 0 < r := by simpa using a
    have r0 : r = 0 := by omega
    rw [if_neg (by rw [r0]; decide)]
    intro n n1
    refine h _ ⟨⟨.inl r0, fun _ => rfl, fun _ => rfl, Nat.zero_le _⟩, ?_⟩
    unfold fL
    rw [ckN_pos n1, ckN_pos z0]
    rfl
theorem sc_law_made : FnScope ["plan", "blocks"] ["plan", "blocks"] (defScope s_law_made) := ⟨rfl, rfl, rfl, by decide +kernel, rfl, by decide +kernel, by decide +kernel⟩
theorem ok_law_madeL (T : Txt K mg) : Ok pw w K mg base "_law_made" (He.fAd K ("_law_made", none)) 8 ["plan", "blocks"] (spOf K rs0 (aCons rpPl (aCons (rpL (i := (rp2 (i := rpI) (j := rpI)))) aNil)) rpTf (fun x post ep => (InvP x.1 ∧ x.2.1 = x.1.x2.l) ∧ exO (fP x.1) (post (mkT x.1)) ep)) := by
  obtain ⟨fd_Tariff, FJ_Tariff, B_Tariff⟩ := (ok_Tariff_init (w := w) (base := base) T).ex
  have F_Tariff := Ty.FnOk.mkJ FJ_Tariff (iδ := rpTf) (mk := fun s => ⟨0, s, [], 0⟩) (.inl rfl) rep0
  obtain ⟨fd_BlockL, FJ_BlockL, B_BlockTariffL⟩ := (ok_BlockTariff_init_L (w := w) (base := base) T).ex
  have F_BlockTariffL := Ty.FnOk.mkJ FJ_BlockL (iδ := rpTf) (mk := fun s => ⟨1, s.1, s.2, 0⟩) (.inl rfl) rep1
  obtain ⟨fd_FreeL, FJ_FreeL, B_FreeTariffL⟩ := (ok_FreeTariff_init_L (w := w) (base := base) T).ex
  have F_FreeTariffL := Ty.FnOk.mkJ FJ_FreeL (iδ := rpTf) (mk := fun s => ⟨2, s.1, s.2.1, s.2.2⟩) rfl rep2
  obtain ⟨fd, F⟩ := T.d_law_made
  have nd := sc_law_made.nd
  refine ⟨⟨fd, fn_ok F sc_law_made (fun _ => rfl) (fun y cdv A outer s H G E hr => ⟨_, (b_if (mid := fun s1 : Unit => [.val rpPl y.1, .val (rpL (i := (rp2 (i := rpI) (j := rpI)))) y.2.1]) (t_cmp eq_V (e_ix ix_X4_0 (e_var 0 rfl) e_int) e_int (nomark _))
 (b_ret (e_make T.mk_Tariff F_Tariff (hr.mono (by decide)) T.g_Tariff B_Tariff (takes_of rfl rfl rfl rfl) (a_cons (e_ix ix_X4_1 (e_var 0 rfl) e_int) a_nil)))
 (b_nil () (.cons (.refl _) (.cons (.refl _) .nil)))
 (fun s1 => (b_if (mid := fun s2 : Unit => [.val rpPl y.1, .val (rpL (i := (rp2 (i := rpI) (j := rpI)))) y.2.1]) (t_cmp eq_V (e_ix ix_X4_0 (e_var 0 rfl) e_int) e_int (nomark _))
 (b_ret (e_make T.mk_BlockTariff F_BlockTariffL (hr.mono (by decide)) T.g_BlockTariff B_BlockTariffL (takes_of rfl rfl rfl rfl) (a_cons (e_ix ix_X4_1 (e_var 0 rfl) e_int) (a_cons (e_var 1 rfl) a_nil))))
 (b_nil () (.cons (.refl _) (.cons (.refl _) .nil)))
 (fun s2 => (b_ret (e_make T.mk_FreeTariff F_FreeTariffL (hr.mono (by decide)) T.g_FreeTariff B_FreeTariffL (takes_of rfl rfl rfl rfl) (a_cons (e_ix ix_X4_1 (e_var 0 rfl) e_int) (a_cons (e_var 1 rfl) (a_cons (e_ix ix_X4_3 (e_var 0 rfl) e_int) a_nil)))))))))⟩) ?_, F.bindsN fun _ _ _ _ _ _ us hl => match us, hl with | [_, _], _ => rfl⟩, F.kp, T.g_law_made⟩
  intro y post ep h
  dsimp only [endP, seqP, endI]
  obtain ⟨⟨h1, h2⟩, h3⟩ := h
  rw [fPL h1] at h3
  obtain ⟨k1, k2, k3, k4⟩ := h1
  have c0 : ckN 0 = none := ckN_pos (by unfold okN; omega)
  unfold fL mkT at h3
  have h2 : y.2.1 = y.1.x2.l := h2
  refine ⟨rfl, ?_⟩
  split
  · rename_i a
    have a := of_decide_eq_true a
    rw [k2 a, k3 (by omega), c0, a] at h3
    exact ⟨rfl, by rw [show orE (fB 0 []) none = none from rfl, orE_right] at h3; exact h3⟩
  · rename_i a
    have a : ¬ y.1.x0 = 0 := by simpa using a
    refine ⟨rfl, ?_⟩
    split
    · rename_i b
      have b := of_decide_eq_true b
      rw [k3 (by omega), c0, b, orE_right] at h3
      exact ⟨rfl, by rw [h2]; exact h3⟩
    · rename_i b
      have b : ¬ y.1.x0 = 1 := by simpa using b
      have c : y.1.x0 = 2 := by omega
      rw [c] at h3
      refine ⟨rfl, rfl, ?_⟩
      rw [h2]
      cases hc : ckN y.1.x1 with
      | some n =>
        rw [hc] at h3
        exact h3
      | none =>
        rw [hc] at h3
        exact h3
theorem ok_law_madeT (T : Txt K mg) : Ok pw w K mg base "_law_made" (He.fAd K ("_law_made", none)) 8 ["plan", "blocks"] (spOf K rs0 (aCons rpPl (aCons (rpT (i := (rp2 (i := rpI) (j := rpI)))) aNil)) rpTf (fun x post ep => (InvP x.1 ∧ x.2.1.l = x.1.x2.l) ∧ exO (fP x.1) (post (mkT x.1)) ep)) := by
  obtain ⟨fd_Tariff, FJ_Tariff, B_Tariff⟩ := (ok_Tariff_init (w := w) (base := base) T).ex
  have F_Tariff := Ty.FnOk.mkJ FJ_Tariff (iδ := rpTf) (mk := fun s => ⟨0, s, [], 0⟩) (.inl rfl) rep0
  obtain ⟨fd_BlockT, FJ_BlockT, B_BlockTariffT⟩ := (ok_BlockTariff_init_T (w := w) (base := base) T).ex
  have F_BlockTariffT := Ty.FnOk.mkJ FJ_BlockT (iδ := rpTf) (mk := fun s => ⟨1, s.1, s.2, 0⟩) (.inl rfl) rep1
  obtain ⟨fd_FreeT, FJ_FreeT, B_FreeTariffT⟩ := (ok_FreeTariff_init_T (w := w) (base := base) T).ex
  have F_FreeTariffT := Ty.FnOk.mkJ FJ_FreeT (iδ := rpTf) (mk := fun s => ⟨2, s.1, s.2.1, s.2.2⟩) rfl rep2
  obtain ⟨fd, F⟩ := T.d_law_made
  have nd := sc_law_made.nd
  refine ⟨⟨fd, fn_ok F sc_law_made (fun _ => rfl) (fun y cdv A outer s H G E hr => ⟨_, (b_if (mid := fun s1 : Unit => [.val rpPl y.1, .val (rpT (i := (rp2 (i := rpI) (j := rpI)))) y.2.1]) (t_cmp eq_V (e_ix ix_X4_0 (e_var 0 rfl) e_int) e_int (nomark _))
 (b_ret (e_make T.mk_Tariff F_Tariff (hr.mono (by decide)) T.g_Tariff B_Tariff (takes_of rfl rfl rfl rfl) (a_cons (e_ix ix_X4_1 (e_var 0 rfl) e_int) a_nil)))
 (b_nil () (.cons (.refl _) (.cons (.refl _) .nil)))
 (fun s1 => (b_if (mid := fun s2 : Unit => [.val rpPl y.1, .val (rpT (i := (rp2 (i := rpI) (j := rpI)))) y.2.1]) (t_cmp eq_V (e_ix ix_X4_0 (e_var 0 rfl) e_int) e_int (nomark _))
 (b_ret (e_make T.mk_BlockTariff F_BlockTariffT (hr.mono (by decide)) T.g_BlockTariff B_BlockTariffT (takes_of rfl rfl rfl rfl) (a_cons (e_ix ix_X4_1 (e_var 0 rfl) e_int) (a_cons (e_var 1 rfl) a_nil))))
 (b_nil () (.cons (.refl _) (.cons (.refl _) .nil)))
 (fun s2 => (b_ret (e_make T.mk_FreeTariff F_FreeTariffT (hr.mono (by decide)) T.g_FreeTariff B_FreeTariffT (takes_of rfl rfl rfl rfl) (a_cons (e_ix ix_X4_1 (e_var 0 rfl) e_int) (a_cons (e_var 1 rfl) (a_cons (e_ix ix_X4_3 (e_var 0 rfl) e_int) a_nil)))))))))⟩) ?_, F.bindsN fun _ _ _ _ _ _ us hl => match us, hl with | [_, _], _ => rfl⟩, F.kp, T.g_law_made⟩
  intro y post ep h
  dsimp only [endP, seqP, endI]
  obtain ⟨⟨h1, h2⟩, h3⟩ := h
  rw [fPL h1] at h3
  obtain ⟨k1, k2, k3, k4⟩ := h1
  have c0 : ckN 0 = none := ckN_pos (by unfold okN; omega)
  unfold fL mkT at h3
  have h2 : y.2.1.l = y.1.x2.l := h2
  refine ⟨rfl, ?_⟩
  split
  · rename_i a
    have a := of_decide_eq_true a
    rw [k2 a, k3 (by omega), c0, a] at h3
    exact ⟨rfl, by rw [show orE (fB 0 []) none = none from rfl, orE_right] at h3; exact h3⟩
  · rename_i a
    have a : ¬ y.1.x0 = 0 := by simpa using a
    refine ⟨rfl, ?_⟩
    split
    · rename_i b
      have b := of_decide_eq_true b
      rw [k3 (by omega), c0, b, orE_right] at h3
      exact ⟨rfl, by rw [h2]; exact h3⟩
    · rename_i b
      have b : ¬ y.1.x0 = 1 := by simpa using b
      have c : y.1.x0 = 2 := by omega
      rw [c] at h3
      refine ⟨rfl, rfl, ?_⟩
      rw [h2]
      cases hc : ckN y.1.x1 with
      | some n =>
        rw [hc] at h3
        exact h3
      | none =>
        rw [hc] at h3
        exact h3
theorem sc_law_units : FnScope ["bag", "plan", "bounds", "bound", "other", "far", "block"] ["bag", "plan"] (defScope s_law_units) := ⟨rfl, rfl, rfl, by decide +kernel, rfl, by decide +kernel, by decide +kernel⟩
theorem ok_law_units (T : Txt K mg) : Ok pw w K mg base "_law_units" (He.fAd K ("_law_units", none)) 2 ["bag", "plan"] (spR K (rsG 2) (fun q => (aRf q (aCons rpPl aNil))) (rpL (i := rpI)) (fun x post _ => OkP x.1 ∧ ∀ us : List Int, (∀ u ∈ us, 0 ≤ u) → post us)) := by
  obtain ⟨fd_law_take, F_law_take, B_law_take⟩ := (ok_law_take (w := w) (base := base) T).ex
  have K_law_take := (ok_law_take (w := w) (base := base) T).kp
  have G_law_take := (ok_law_take (w := w) (base := base) T).gm
  obtain ⟨fd, F⟩ := T.d_law_units
  have nd := sc_law_units.nd
  refine ⟨⟨fd, fn_okR F sc_law_units (fun _ _ => rfl) (fun q y cdv A outer s H G E hr => ⟨_, (b_set 2 nd (e_op add_L (e_list (iα := rpI) (a_cons (e_ix ix_X4_3 (e_var 1 rfl) e_int) a_nil) (.cons .nil)) (e_lc rfl nd (blkOk_by (own := [("block", 6)]) (by show blkC ["bag", "plan", "bounds", "bound", "other", "far", "block"] (defScope s_law_units) _ _ = true; decide +kernel)) (by decide) rfl (i_tpl (e_ix ix_X4_2 (e_var 1 rfl) e_int)) (fun _ _ _ _ _ => (g_name 6 nd)) (fun _ _ _ _ _ c2 => ts_nil) (fun _ _ _ _ _ c2 => (JE.conv (e_op add_I (e_ix ix_X4_3 (e_var 1 rfl) e_int) (e_ix ix_2a (e_var 6 rfl) e_int)) (by first | rfl | (dsimp only [Cx.blk] <;> rfl)) (by first | rfl | (dsimp only [Cx.blk] <;> rfl))))))
 (fun bounds_1 => (b_set 3 nd (e_ix ix_L (e_var 2 rfl) (e_callR rfl F_law_take (hr.mono (by decide)) G_law_take K_law_take B_law_take (takes_of rfl rfl rfl rfl) (a_rf 0 rfl (a_cons (e_cb len_L T.f_len (a_cons (e_var 2 rfl) a_nil)) a_nil))))
 (fun bound_3 => (b_set 4 nd (e_ix ix_L (e_var 2 rfl) (e_callR rfl F_law_take (hr.mono (by decide)) G_law_take K_law_take B_law_take (takes_of rfl rfl rfl rfl) (a_rf 0 rfl (a_cons (e_cb len_L T.f_len (a_cons (e_var 2 rfl) a_nil)) a_nil))))
 (fun other_4 => (b_set 5 nd (e_op add_I (e_op add_I (e_op mul_I (e_callR rfl F_law_take (hr.mono (by decide)) G_law_take K_law_take B_law_take (takes_of rfl rfl rfl rfl) (a_rf 0 rfl (a_cons e_int a_nil))) e_int) (e_op mul_I (e_callR rfl F_law_take (hr.mono (by decide)) G_law_take K_law_take B_law_take (takes_of rfl rfl rfl rfl) (a_rf 0 rfl (a_cons e_int a_nil))) e_int)) (e_callR rfl F_law_take (hr.mono (by decide)) G_law_take K_law_take B_law_take (takes_of rfl rfl rfl rfl) (a_rf 0 rfl (a_cons e_int a_nil))))
 (fun far_5 => (b_ret (e_list (iα := rpI) (a_cons e_int (a_cons e_int (a_cons (e_var 3 rfl) (a_cons (e_op add_I (e_var 3 rfl) e_int) (a_cons (e_cb (max_I rfl) T.f_max (a_cons e_int (a_cons (e_op sub_I (e_var 3 rfl) e_int) a_nil))) (a_cons (e_var 4 rfl) (a_cons (e_callR rfl F_law_take (hr.mono (by decide)) G_law_take K_law_take B_law_take (takes_of rfl rfl rfl rfl) (a_rf 0 rfl (a_cons e_int a_nil))) (a_cons (e_var 5 rfl) a_nil)))))))) (.cons (.cons (.cons (.cons (.cons (.cons (.cons (.cons .nil))))))))))))))))))⟩) ?_, F.bindsN fun _ _ _ _ _ _ us hl => match us, hl with | [_, _], _ => rfl⟩, F.kp, T.g_law_units⟩
  intro y post ep h
  dsimp only [endP, seqP, endI]
  obtain ⟨h1, h2⟩ := h
  obtain ⟨o1, o2, o3⟩ := h1.out
  have len : y.1.x2.l.length ≤ 100 := h1.1.2.2.2
  unfold okN at o3
  refine ⟨rfl, by show 1 ≤ sizeLine; decide, rfl, fun hz => ⟨hz, ?_⟩⟩
  refine lcP_eq (fun _ => true) (fun b => y.1.x3 + b.1) _ (fun _ _ _ _ p => p) (fun b hb _ P ep p => ⟨rfl, rfl, p⟩) ?_
  have hm : ∀ u ∈ [y.1.x3] ++ (y.1.x2.l.filter fun _ => true).map (fun b => y.1.x3 + b.1), 0 ≤ u := fun u hu => by
    rcases List.mem_append.mp hu with hu | hu
    · have e := List.mem_singleton.mp hu
      omega
    · obtain ⟨b, hb, rfl⟩ := List.mem_map.mp hu
      have := (fB_ok o2 b (List.mem_filter.mp hb).1).1
      omega
  have hl : ([y.1.x3] ++ (y.1.x2.l.filter fun _ => true).map (fun b => y.1.x3 + b.1)).length ≤ 101 ∧ 0 < ([y.1.x3] ++ (y.1.x2.l.filter fun _ => true).map (fun b => y.1.x3 + b.1)).length := by
    rw [List.length_append, List.length_map, List.length_singleton]
    have := List.length_filter_le (fun _ => true) y.1.x2.l
    omega
  refine ⟨by rw [← List.length_append, sizeLine_eq]; omega, ?_⟩
  generalize [y.1.x3] ++ (y.1.x2.l.filter fun _ => true).map (fun b => y.1.x3 + b.1) = bounds at hm hl
  refine fun _ => ⟨⟨by omega, by omega⟩, fun r r1 r2 => ?_⟩
  obtain ⟨m, m1, m2⟩ := atI_ok r1 r2
  refine ⟨m, m1, fun _ => ⟨⟨by omega, by omega⟩, fun r r1 r2 => ?_⟩⟩
  obtain ⟨m', m1', m2'⟩ := atI_ok r1 r2
  have p1 := hm m m2
  have p2 := hm m' m2'
  refine ⟨m', m1', ⟨by decide, by decide⟩, fun a a1 a2 => ⟨.inr ⟨by decide, by decide⟩, ⟨by decide, by decide⟩, fun b b1 b2 => ⟨.inr ⟨by decide, by decide⟩, ⟨by decide, by decide⟩, fun c c1 c2 => ⟨⟨by decide, by decide⟩, fun d d1 d2 => ⟨by show 8 ≤ sizeLine; decide, h2 _ fun u hu => ?_⟩⟩⟩⟩⟩
  simp only [List.mem_cons, List.not_mem_nil, or_false] at hu
  omega
theorem sc_law_price : FnScope ["plan", "units", "paid", "price", "block"] ["plan", "units"] (defScope s_law_price) := ⟨rfl, rfl, rfl, by decide +kernel, rfl, by decide +kernel, by decide +kernel⟩
theorem ok_law_price (T : Txt K mg) : Ok pw w K mg base "_law_price" (He.fAd K ("_law_price", none)) 1 ["plan", "units"] (spOf K rs0 (aCons rpPl (aCons rpI aNil)) rpI (fun x post _ => (okN x.1.x1 ∧ ∀ b ∈ x.1.x2.l, okN b.2) ∧ post (bl (max 0 (x.2.1 - x.1.x3)) (x.1.x1 * max 0 (x.2.1 - x.1.x3)) x.1.x2.l))) := by
  obtain ⟨fd, F⟩ := T.d_law_price
  have nd := sc_law_price.nd
  refine ⟨⟨fd, fn_ok F sc_law_price (fun _ => rfl) (fun y cdv A outer s H G E hr => ⟨_, (b_set 2 nd (e_cb (max_I rfl) T.f_max (a_cons e_int (a_cons (e_op sub_I (e_var 1 rfl) (e_ix ix_X4_3 (e_var 0 rfl) e_int)) a_nil)))
 (fun paid_1 => (b_set 3 nd (e_op mul_I (e_ix ix_X4_1 (e_var 0 rfl) e_int) (e_var 2 rfl))
 (fun price_2 => (b_for (lpS := fun s3 : Int => [.val rpPl y.1, .val rpI y.2.1, .val rpI paid_1, .val rpI s3, .no]) price_2 (.cons (.refl _) (.cons (.refl _) (.cons (.refl _) (.cons (.refl _) (.cons (.refl _) .nil))))) (passes_of rfl) rfl (i_tpl (e_ix ix_X4_2 (e_var 0 rfl) e_int)) (g_name 4 nd)
 (fun x4 s3 => (b_set 3 nd (e_op add_I (e_var 3 rfl) (e_op mul_I (e_ix ix_2b (e_var 4 rfl) e_int) (e_cb (max_I rfl) T.f_max (a_cons e_int (a_cons (e_op sub_I (e_var 2 rfl) (e_ix ix_2a (e_var 4 rfl) e_int)) a_nil)))))
 (fun price_5 => (b_nil price_5 (.cons (.refl _) (.cons (.refl _) (.cons (.refl _) (.cons (.refl _) (.cons (.no _) .nil)))))))))
 (fun s3 => (b_ret (e_var 3 rfl))))))))⟩) ?_, F.bindsN fun _ _ _ _ _ _ us hl => match us, hl with | [_, _], _ => rfl⟩, F.kp, T.g_law_price⟩
  intro y post ep h
  dsimp only [endP, seqP, endI]
  obtain ⟨⟨h1, h2⟩, h3⟩ := h
  unfold okN at h1
  refine ⟨rfl, rfl, .inl ⟨by omega, by omega⟩, rfl, fun _ => ?_⟩
  refine forP_ind (fun rest s => (∀ b ∈ rest, okN b.2) ∧ post (bl (max 0 (y.2.1 - y.1.x3)) s rest)) (fun s hi => hi.2) (fun b r s next hn hi => ?_) _ _ ⟨h2, h3⟩
  obtain ⟨k1, k2⟩ := hi
  have k3 := k1 b List.mem_cons_self
  unfold okN at k3
  exact ⟨rfl, rfl, .inl ⟨by omega, by omega⟩, hn _ ⟨fun c hc => k1 c (List.mem_cons_of_mem _ hc), k2⟩⟩
theorem sc_law_fault : FnScope ["plan", "before", "block"] ["plan"] (defScope s_law_fault) := ⟨rfl, rfl, rfl, by decide +kernel, rfl, by decide +kernel, by decide +kernel⟩
theorem ok_law_fault (T : Txt K mg) : Ok pw w K mg base "_law_fault" (He.fAd K ("_law_fault", none)) 1 ["plan"] (spOf K rs0 (aCons rpPl aNil) (rpT (i := rpI)) (fun x post _ => post (tuF (fL x.1)))) := by
  obtain ⟨fd, F⟩ := T.d_law_fault
  have nd := sc_law_fault.nd
  refine ⟨⟨fd, fn_ok F sc_law_fault (fun _ => rfl) (fun y cdv A outer s H G E hr => ⟨_, (b_if (mid := fun s1 : Unit => [.val rpPl y.1, .no, .no]) (t_not (t_chain le_I le_I e_int (e_ix ix_X4_1 (e_var 0 rfl) e_int) e_int))
 (b_ret (e_tupT (a_cons (e_ix ix_X4_1 (e_var 0 rfl) e_int) a_nil) (.cons .nil)))
 (b_nil () (.cons (.refl _) (.cons (.refl _) (.cons (.refl _) .nil))))
 (fun s1 => (b_set 1 nd (e_un neg_I e_int)
 (fun before_2 => (b_for (lpS := fun s3 : Int => [.val rpPl y.1, .val rpI s3, .no]) before_2 (.cons (.refl _) (.cons (.refl _) (.cons (.refl _) .nil))) (passes_of rfl) rfl (i_tpl (e_ix ix_X4_2 (e_var 0 rfl) e_int)) (g_name 2 nd)
 (fun x4 s3 => (b_if (mid := fun s5 : Unit => [.val rpPl y.1, .val rpI s3, .val (rp2 (i := rpI) (j := rpI)) x4]) (t_not (t_chain lt_I le_I (e_var 1 rfl) (e_ix ix_2a (e_var 2 rfl) e_int) e_int))
 (b_ret (e_tupT (a_cons (e_ix ix_2a (e_var 2 rfl) e_int) a_nil) (.cons .nil)))
 (b_nil () (.cons (.refl _) (.cons (.refl _) (.cons (.refl _) .nil))))
 (fun s5 => (b_if (mid := fun s6 : Unit => [.val rpPl y.1, .val rpI s3, .val (rp2 (i := rpI) (j := rpI)) x4]) (t_not (t_chain le_I le_I e_int (e_ix ix_2b (e_var 2 rfl) e_int) e_int))
 (b_ret (e_tupT (a_cons (e_ix ix_2b (e_var 2 rfl) e_int) a_nil) (.cons .nil)))
 (b_nil () (.cons (.refl _) (.cons (.refl _) (.cons (.refl _) .nil))))
 (fun s6 => (b_set 1 nd (e_ix ix_2a (e_var 2 rfl) e_int)
 (fun before_7 => (b_nil before_7 (.cons (.refl _) (.cons (.refl _) (.cons (.no _) .nil)))))))))))
 (fun s3 => (b_if (mid := fun s8 : Unit => [.val rpPl y.1, .val rpI s3, .no]) (t_not (t_chain le_I le_I e_int (e_ix ix_X4_3 (e_var 0 rfl) e_int) e_int))
 (b_ret (e_tupT (a_cons (e_ix ix_X4_3 (e_var 0 rfl) e_int) a_nil) (.cons .nil)))
 (b_nil () (.cons (.refl _) (.cons (.refl _) (.cons (.refl _) .nil))))
 (fun s8 => (b_ret (e_tupT a_nil .nil))))))))))⟩) ?_, F.bindsN fun _ _ _ _ _ _ us hl => match us, hl with | [_], _ => rfl⟩, F.kp, T.g_law_fault⟩
  intro y post ep h
  dsimp only [endP, seqP, endI]
  have one : ∀ n : Int, [n].length ≤ sizeLine := fun n => by show 1 ≤ sizeLine; decide
  have loop : okN y.1.x1 → y.1.x2.l.length ≤ sizeLine → forP
      (fun (b : Int × Int) (s : Int) (post : Out Int Int (Tu Int) → Prop) (ep : Exn → Prop) => (0 : Int) = 0 ∧ if s < b.1 ∧ b.1 ≤ 9999 then ((1 : Int) = 1 ∧ if 0 ≤ b.2 ∧ b.2 ≤ 9999 then (0 : Int) = 0 ∧ post (.nx b.1) else (1 : Int) = 1 ∧ [b.2].length ≤ sizeLine ∧ post (.rt ⟨[b.2]⟩)) else (0 : Int) = 0 ∧ [b.1].length ≤ sizeLine ∧ post (.rt ⟨[b.1]⟩))
      (fun _ => (3 : Int) = (3 : Nat) ∧ if 0 ≤ y.1.x3 ∧ y.1.x3 ≤ 9999 then ([] : List Int).length ≤ sizeLine ∧ post ⟨[]⟩ else (3 : Int) = (3 : Nat) ∧ [y.1.x3].length ≤ sizeLine ∧ post ⟨[y.1.x3]⟩) (fun b => post b) ep y.1.x2.l (-1) := fun h1 _ => by
    unfold fL at h
    rw [ckN_pos h1] at h
    have h : post (tuF (orE (fB ((-1) + 1) y.1.x2.l) (ckN y.1.x3))) := h
    refine forP_ind (fun rest s => post (tuF (orE (fB (s + 1) rest) (ckN y.1.x3)))) (fun s hi => ⟨rfl, ?_⟩) (fun b r s next hn hi => ⟨rfl, ?_⟩) _ _ h
    · have hi : post (tuF (ckN y.1.x3)) := hi
      by_cases a : 0 ≤ y.1.x3 ∧ y.1.x3 ≤ 9999
      · rw [ckN_pos a] at hi
        rw [if_pos a]
        exact ⟨Nat.zero_le _, hi⟩
      · rw [ckN_neg a] at hi
        rw [if_neg a]
        exact ⟨rfl, one _, hi⟩
    · by_cases a : s < b.1 ∧ b.1 ≤ 9999
      · rw [if_pos a]
        have a' : s + 1 ≤ b.1 ∧ b.1 ≤ 9999 := by omega
        refine ⟨rfl, ?_⟩
        by_cases a2 : 0 ≤ b.2 ∧ b.2 ≤ 9999
        · rw [if_pos a2]
          rw [fB_cons a' a2] at hi
          exact ⟨rfl, hn _ hi⟩
        · rw [if_neg a2]
          rw [fB_bad2 a' a2] at hi
          exact ⟨rfl, one _, hi⟩
      · rw [if_neg a]
        rw [fB_bad1 (by omega)] at hi
        exact ⟨rfl, one _, hi⟩
  refine ⟨rfl, ?_⟩
  have two : ∀ {a b : Prop} [Decidable a] [Decidable b] {P Q : Prop}, (if a ∧ b then Q else P) → (if decide a = true then (if (!decide b) = true then P else Q) else (if (!false) = true then P else Q)) := fun {a b} _ _ {P Q} z => by
    by_cases ha : a
    · rw [if_pos (decide_eq_true ha)]
      by_cases hb : b
      · rw [if_pos ⟨ha, hb⟩] at z
        rw [if_neg (by simp [hb])]
        exact z
      · rw [if_neg fun y => hb y.2] at z
        rw [if_pos (by simp [hb])]
        exact z
    · rw [if_neg (by simpa using ha), if_pos (show (!false) = true from rfl)]
      rw [if_neg fun y => ha y.1] at z
      exact z
  refine two ?_
  by_cases a : 0 ≤ y.1.x1 ∧ y.1.x1 ≤ 9999
  · rw [if_pos a]
    refine ⟨rfl, fun hz => ?_⟩
    refine forP_imp (loop a hz) (fun b s p q z => ?_) (fun s z => ?_) (fun b s P P' q hP z => ?_)
    · obtain ⟨z1, z2⟩ := z
      refine ⟨z1, two ?_⟩
      split
      · rw [if_pos ‹_›] at z2
        exact ⟨z2.1, two z2.2⟩
      · rw [if_neg ‹_›] at z2
        exact z2
    · exact ⟨z.1, two z.2⟩
    · obtain ⟨z1, z2⟩ := z
      refine ⟨z1, ?_⟩
      split
      · rw [if_pos ‹_›] at z2
        refine ⟨z2.1, ?_⟩
        have z3 := z2.2
        split
        · rw [if_pos ‹_›] at z3
          exact ⟨z3.1, hP _ z3.2⟩
        · rw [if_neg ‹_›] at z3
          exact ⟨z3.1, z3.2.1, hP _ z3.2.2⟩
      · rw [if_neg ‹_›] at z2
        exact ⟨z2.1, z2.2.1, hP _ z2.2.2⟩
  · rw [if_neg a]
    refine ⟨rfl, one _, ?_⟩
    unfold fL at h
    rw [ckN_neg a] at h
    exact h
theorem sc_law_bent : FnScope ["bag", "plan", "way", "blocks", "at", "lower"] ["bag", "plan"] (defScope s_law_bent) := ⟨rfl, rfl, rfl, by decide +kernel, rfl, by decide +kernel, by decide +kernel⟩
theorem ok_law_bent (T : Txt K mg) : Ok pw w K mg base "_law_bent" (He.fAd K ("_law_bent", none)) 3 ["bag", "plan"] (spR K (rsG 2) (fun q => (aRf q (aCons rpPl aNil))) rpPl (fun x post _ => InvP x.1 ∧ ∀ p : Pl, InvP p → post p)) := by
  obtain ⟨fd_law_take, F_law_take, B_law_take⟩ := (ok_law_take (w := w) (base := base) T).ex
  have K_law_take := (ok_law_take (w := w) (base := base) T).kp
  have G_law_take := (ok_law_take (w := w) (base := base) T).gm
  obtain ⟨fd_law_wrong, F_law_wrong, B_law_wrong⟩ := (ok_law_wrong (w := w) (base := base) T).ex
  have K_law_wrong := (ok_law_wrong (w := w) (base := base) T).kp
  have G_law_wrong := (ok_law_wrong (w := w) (base := base) T).gm
  obtain ⟨fd, F⟩ := T.d_law_bent
  have nd := sc_law_bent.nd
  refine ⟨⟨fd, fn_okR F sc_law_bent (fun _ _ => rfl) (fun q y cdv A outer s H G E hr => ⟨_, (b_set 2 nd e_int
 (fun way_1 => (b_if (mid := fun s2 : Int => [.rf q, .val rpPl y.1, .val rpI s2, .no, .no, .no]) (t_cmp gt_I (e_ix ix_X4_0 (e_var 1 rfl) e_int) e_int (nomark _))
 (b_set 2 nd (e_callR rfl F_law_take (hr.mono (by decide)) G_law_take K_law_take B_law_take (takes_of rfl rfl rfl rfl) (a_rf 0 rfl (a_cons (e_op add_I e_int (e_ct int_B T.f_int (a_cons (e_cmp eq_V (e_ix ix_X4_0 (e_var 1 rfl) e_int) e_int (nomark _)) a_nil))) a_nil)))
 (fun way_3 => (b_nil way_3 (.cons (.refl _) (.cons (.refl _) (.cons (.refl _) (.cons (.refl _) (.cons (.refl _) (.cons (.refl _) .nil)))))))))
 (b_nil way_1 (.cons (.refl _) (.cons (.refl _) (.cons (.refl _) (.cons (.refl _) (.cons (.refl _) (.cons (.refl _) .nil)))))))
 (fun s2 => (b_newT 3 nd T.f_list (e_ix ix_X4_2 (e_var 1 rfl) e_int)
 (fun m4 => (b_if (mid := fun s5 : Unit => [.rf q, .val rpPl y.1, .val rpI s2, .ml (rp2 (i := rpI) (j := rpI)) m4.l, .no, .no]) (t_cmp eq_V (e_var 2 rfl) e_int (nomark _))
 (b_ret (e_tupX4 (a_cons (e_ix ix_X4_0 (e_var 1 rfl) e_int) (a_cons (e_ix ix_X4_1 (e_var 1 rfl) e_int) (a_cons (e_ix ix_X4_2 (e_var 1 rfl) e_int) (a_cons (e_callR rfl F_law_wrong (hr.mono (by decide)) G_law_wrong K_law_wrong B_law_wrong (takes_of rfl rfl rfl rfl) (a_rf 0 rfl a_nil)) a_nil))))))
 (b_nil () (.cons (.refl _) (.cons (.refl _) (.cons (.refl _) (.cons (.refl _) (.cons (.refl _) (.cons (.refl _) .nil)))))))
 (fun s5 => (b_if (mid := fun s6 : Unit => [.rf q, .val rpPl y.1, .val rpI s2, .ml (rp2 (i := rpI) (j := rpI)) m4.l, .no, .no]) (t_pw (tw_or (t_cmp eq_V (e_var 2 rfl) e_int (nomark _)) (tw_or1 (t_not (t_ml (j := 3) rfl)))))
 (b_ret (e_tupX4 (a_cons (e_ix ix_X4_0 (e_var 1 rfl) e_int) (a_cons (e_callR rfl F_law_wrong (hr.mono (by decide)) G_law_wrong K_law_wrong B_law_wrong (takes_of rfl rfl rfl rfl) (a_rf 0 rfl a_nil)) (a_cons (e_ix ix_X4_2 (e_var 1 rfl) e_int) (a_cons (e_ix ix_X4_3 (e_var 1 rfl) e_int) a_nil))))))
 (b_nil () (.cons (.refl _) (.cons (.refl _) (.cons (.refl _) (.cons (.refl _) (.cons (.refl _) (.cons (.refl _) .nil)))))))
 (fun s6 => (b_set 4 nd (e_callR rfl F_law_take (hr.mono (by decide)) G_law_take K_law_take B_law_take (takes_of rfl rfl rfl rfl) (a_rf 0 rfl (a_cons (e_lenM (j := 3) rfl T.f_len) a_nil)))
 (fun at_7 => (b_if (mid := fun s8 : (List (Int × Int)) => [.rf q, .val rpPl y.1, .val rpI s2, .ml (rp2 (i := rpI) (j := rpI)) s8, .val rpI at_7, .no]) (t_cmp eq_V (e_var 2 rfl) e_int (nomark _))
 (b_setM 3 rfl (e_tup2 (a_cons (e_ix ix_2a (e_ixM (j := 3) rfl (e_var 4 rfl)) e_int) (a_cons (e_callR rfl F_law_wrong (hr.mono (by decide)) G_law_wrong K_law_wrong B_law_wrong (takes_of rfl rfl rfl rfl) (a_rf 0 rfl a_nil)) a_nil))) (e_var 4 rfl)
 (fun m9 k10 => (b_nil (setN m4.l k10 m9) (.cons (.refl _) (.cons (.refl _) (.cons (.refl _) (.cons (.refl _) (.cons (.refl _) (.cons (.refl _) .nil)))))))))
 (b_ifE (t_pw (tw_and (t_cmp gt_I (e_var 4 rfl) e_int (nomark _)) (tw_and1 (t_cmp gt_I (e_callR rfl F_law_take (hr.mono (by decide)) G_law_take K_law_take B_law_take (takes_of rfl rfl rfl rfl) (a_rf 0 rfl (a_cons e_int a_nil))) e_int (nomark _)))))
 (b_set 5 nd (e_ix ix_L (e_list (iα := rpI) (a_cons (e_un neg_I e_int) (a_cons e_int (a_cons (e_op add_I e_int (e_callR rfl F_law_take (hr.mono (by decide)) G_law_take K_law_take B_law_take (takes_of rfl rfl rfl rfl) (a_rf 0 rfl (a_cons e_int a_nil)))) a_nil))) (.cons (.cons (.cons .nil)))) (e_callR rfl F_law_take (hr.mono (by decide)) G_law_take K_law_take B_law_take (takes_of rfl rfl rfl rfl) (a_rf 0 rfl (a_cons e_int a_nil))))
 (fun lower_11 => (b_setM 3 rfl (e_tup2 (a_cons (e_op sub_I (e_ix ix_2a (e_ixM (j := 3) rfl (e_op sub_I (e_var 4 rfl) e_int)) e_int) (e_var 5 rfl)) (a_cons (e_ix ix_2b (e_ixM (j := 3) rfl (e_var 4 rfl)) e_int) a_nil))) (e_var 4 rfl)
 (fun m12 k13 => (b_nil (setN m4.l k13 m12) (.cons (.refl _) (.cons (.refl _) (.cons (.refl _) (.cons (.refl _) (.cons (.refl _) (.cons (.no _) .nil)))))))))))
 (b_setM 3 rfl (e_tup2 (a_cons (e_callR rfl F_law_wrong (hr.mono (by decide)) G_law_wrong K_law_wrong B_law_wrong (takes_of rfl rfl rfl rfl) (a_rf 0 rfl a_nil)) (a_cons (e_ix ix_2b (e_ixM (j := 3) rfl (e_var 4 rfl)) e_int) a_nil))) (e_var 4 rfl)
 (fun m14 k15 => (b_nil (setN m4.l k15 m14) (.cons (.refl _) (.cons (.refl _) (.cons (.refl _) (.cons (.refl _) (.cons (.refl _) (.cons (.refl _) .nil))))))))))
 (fun s8 => (b_frz 3 rfl (b_ret (e_tupX4 (a_cons (e_ix ix_X4_0 (e_var 1 rfl) e_int) (a_cons (e_ix ix_X4_1 (e_var 1 rfl) e_int) (a_cons (e_ct tuple_L T.f_tuple (a_cons (e_var 3 rfl) a_nil)) (a_cons (e_ix ix_X4_3 (e_var 1 rfl) e_int) a_nil)))))))))))))))))))))⟩) ?_, F.bindsN fun _ _ _ _ _ _ us hl => match us, hl with | [_, _], _ => rfl⟩, F.kp, T.g_law_bent⟩
  intro y post ep h
  dsimp only [endP, seqP, endI]
  obtain ⟨h1, h2⟩ := h
  have len : y.1.x2.l.length ≤ 100 := h1.2.2.2
  have same : ∀ n : Int, InvP ⟨y.1.x0, n, y.1.x2, y.1.x3⟩ := fun n => h1
  refine ⟨rfl, ?_⟩
  by_cases a : 0 < y.1.x0
  · have setOk : ∀ (k : Int) (m : Int × Int), (setN y.1.x2.l k m).length ≤ sizeLine ∧ (0 : Int) = (0 : Nat) ∧ (1 : Int) = (1 : Nat) ∧ (3 : Int) = (3 : Nat) ∧ post ⟨y.1.x0, y.1.x1, ⟨setN y.1.x2.l k m⟩, y.1.x3⟩ := fun k m => ⟨by rw [setN_len]; exact Nat.le_of_lt (sz100 len), rfl, rfl, rfl, h2 _ (inv_set h1 a k m)⟩
    rw [if_pos (decide_eq_true a)]
    refine ⟨rfl, ⟨?_, ?_⟩, fun r r1 r2 => ⟨rfl, ?_⟩⟩
    · split <;> omega
    · split <;> omega
    · by_cases b : r = 3
      · rw [if_pos (decide_eq_true b)]
        have k2 : y.1.x0 = 2 := by
          by_cases c : y.1.x0 = 2
          · exact c
          · rw [if_neg (by simpa using c)] at r2
            omega
        exact ⟨rfl, rfl, rfl, fun n => h2 _ ⟨h1.1, h1.2.1, fun z => absurd k2 z, len⟩⟩
      · rw [if_neg (by simpa using b)]
        by_cases b0 : r = 0
        · rw [if_pos (decide_eq_true b0)]
          exact ⟨rfl, fun n => ⟨rfl, rfl, h2 _ (same n)⟩⟩
        · rw [if_neg (by simpa using b0)]
          by_cases e : y.1.x2.l = []
          · rw [if_pos (by rw [e]; rfl)]
            exact ⟨rfl, fun n => ⟨rfl, rfl, h2 _ (same n)⟩⟩
          · have ne : y.1.x2.l.length ≠ 0 := fun z => e (List.length_eq_zero_iff.mp z)
            rw [if_neg (by cases q : y.1.x2.l with | nil => exact absurd q e | cons _ _ => exact fun z => nomatch z)]
            refine ⟨⟨by omega, by omega⟩, fun k k1 k2 => ?_⟩
            obtain ⟨m, m1, _⟩ := atI_ok k1 k2
            have ix := ixN_ok k1 k2
            by_cases c1 : r = 1
            · rw [if_pos (decide_eq_true c1)]
              exact ⟨m, m1, rfl, fun n => ⟨ix, setOk _ _⟩⟩
            · rw [if_neg (by simpa using c1)]
              by_cases c2 : 0 < k
              · rw [if_pos (decide_eq_true c2)]
                refine ⟨⟨by decide, by decide⟩, fun d d1 d2 => ?_⟩
                by_cases c3 : 0 < d
                · rw [if_pos (decide_eq_true c3)]
                  refine ⟨⟨by decide, by decide⟩, fun d d1 d2 => ⟨by show 3 ≤ sizeLine; decide, ⟨by decide, by decide⟩, fun v v1 v2 => ?_⟩⟩
                  obtain ⟨z, z1, _⟩ := atI_ok (xs := [(-1 : Int), 0, 1 + d]) v1 (by show v < 3; omega)
                  obtain ⟨m', m1', _⟩ := atI_ok (xs := y.1.x2.l) (k := k - 1) (by omega) (by omega)
                  exact ⟨z, z1, m', m1', rfl, m, m1, rfl, ix, setOk _ _⟩
                · rw [if_neg (by simpa using c3)]
                  exact fun n => ⟨m, m1, rfl, ix, setOk _ _⟩
              · rw [if_neg (by simpa using c2)]
                exact fun n => ⟨m, m1, rfl, ix, setOk _ _⟩
  · rw [if_neg (by simpa using a)]
    refine ⟨rfl, ?_⟩
    rw [if_neg (by decide), if_pos (by decide)]
    exact ⟨rfl, fun n => ⟨rfl, rfl, h2 _ (same n)⟩⟩
theorem sc_law_is : FnScope ["told", "due"] ["told", "due"] (defScope s_law_is) := ⟨rfl, rfl, rfl, by decide +kernel, rfl, by decide +kernel, by decide +kernel⟩
theorem ok_law_is (T : Txt K mg) : Ok pw w K mg base "_law_is" (He.fAd K ("_law_is", none)) 1 ["told", "due"] (spOf K rs0 (aCons rpI (aCons rpI aNil)) rpB (fun x post _ => post (decide (x.1 = x.2.1)))) := by
  obtain ⟨fd, F⟩ := T.d_law_is
  have nd := sc_law_is.nd
  refine ⟨⟨fd, fn_ok F sc_law_is (fun _ => rfl) (fun y cdv A outer s H G E hr => ⟨_, (b_ret (e_and (e_cb (isiw (cv := .ty "int") (u := .type "int") (b := true) tyI (.ty _) (L2.kit_ty (by decide +kernel))) T.f_isinstance (a_cons (e_var 0 rfl) (a_cons (e_clsB T.f_int) a_nil))) (e_and (e_not (e_cb (isiw (cv := .ty "bool") (u := .type "bool") (b := false) tyI (.ty _) (L2.kit_ty (by decide +kernel))) T.f_isinstance (a_cons (e_var 0 rfl) (a_cons (e_clsB T.f_bool) a_nil)))) (e_one (e_cmp eq_V (e_var 0 rfl) (e_var 1 rfl) (nomark _))))))⟩) ?_, F.bindsN fun _ _ _ _ _ _ us hl => match us, hl with | [_, _], _ => rfl⟩, F.kp, T.g_law_is⟩
  intro y post ep h
  dsimp only [endP, seqP, endI]
  exact h
theorem ok_law_isPP (T : Txt K mg) : ∃ fd, FnP pw w K mg base 1 (He.fAd K ("_law_is", none)) fd ["told", "due"] (spOf K rs0 (aCons rpI (aCons rpI aNil)) rpB (fun x post _ => post (decide (x.1 = x.2.1)))) ∧ Binds K fd ["told", "due"] [] := by
  obtain ⟨fd, F⟩ := T.d_law_is
  have nd := sc_law_is.nd
  refine ⟨fd, fnP_ok F sc_law_is (fun _ => rfl) (fun y cdv A outer s H G E p hr => ⟨_, (b_ret (e_and (e_cb (isiw (cv := .ty "int") (u := .type "int") (b := true) tyI (.ty _) (L2.kit_ty (by decide +kernel))) T.f_isinstance (a_cons (e_var 0 rfl) (a_cons (e_clsB T.f_int) a_nil))) (e_and (e_not (e_cb (isiw (cv := .ty "bool") (u := .type "bool") (b := false) tyI (.ty _) (L2.kit_ty (by decide +kernel))) T.f_isinstance (a_cons (e_var 0 rfl) (a_cons (e_clsB T.f_bool) a_nil)))) (e_one (e_cmp eq_V (e_var 0 rfl) (e_var 1 rfl) (nomark _))))))⟩) ?_, F.bindsN fun _ _ _ _ _ _ us hl => match us, hl with | [_, _], _ => rfl⟩
  intro y post ep h
  dsimp only [endP, seqP, endI]
  exact h
theorem sc_law_same : FnScope ["told", "due", "k"] ["told", "due"] (defScope s_law_same) := ⟨rfl, rfl, rfl, by decide +kernel, rfl, by decide +kernel, by decide +kernel⟩
theorem ok_law_same (T : Txt K mg) : Ok pw w K mg base "_law_same" (He.fAd K ("_law_same", none)) 2 ["told", "due"] (spOf K rs0 (aCons (rpT (i := rpI)) (aCons (rpT (i := rpI)) aNil)) rpB (fun x post _ => post (decide (x.1.l = x.2.1.l)))) := by
  obtain ⟨fd_law_is, F_law_is, B_law_is⟩ := (ok_law_is (w := w) (base := base) T).ex
  have K_law_is := (ok_law_is (w := w) (base := base) T).kp
  have G_law_is := (ok_law_is (w := w) (base := base) T).gm
  obtain ⟨fd, F⟩ := T.d_law_same
  have nd := sc_law_same.nd
  refine ⟨⟨fd, fn_ok F sc_law_same (fun _ => rfl) (fun y cdv A outer s H G E hr => ⟨_, (b_if (mid := fun s1 : Unit => [.val (rpT (i := rpI)) y.1, .val (rpT (i := rpI)) y.2.1, .no]) (t_pw (tw_or (t_not (t_val (e_cb (isiw (cv := .ty "tuple") (u := .type "tuple") (b := true) tyT (.ty _) (L2.kit_ty (by decide +kernel))) T.f_isinstance (a_cons (e_var 0 rfl) (a_cons (e_clsB T.f_tuple) a_nil))))) (tw_or1 (t_cmp ne_V (e_cb len_T T.f_len (a_cons (e_var 0 rfl) a_nil)) (e_cb len_T T.f_len (a_cons (e_var 1 rfl) a_nil)) (nomark _)))))
 (b_ret e_bool)
 (b_nil () (.cons (.refl _) (.cons (.refl _) (.cons (.refl _) .nil))))
 (fun s1 => (b_ret (e_cb (all_L rfl) T.f_all (a_cons (e_lc rfl nd (blkOk_by (own := [("k", 2)]) (by show blkC ["told", "due", "k"] (defScope s_law_same) _ _ = true; decide +kernel)) (by decide) rfl (i_rng1 (by rfl) T.f_range (a_cons (e_cb len_T T.f_len (a_cons (e_var 1 rfl) a_nil)) a_nil)) (fun _ _ _ _ _ => (g_name 2 nd)) (fun _ _ _ _ _ c2 => ts_nil) (fun _ _ _ _ _ c2 => (JE.conv (e_call F_law_is (hr.mono (by decide)) G_law_is K_law_is B_law_is takes0 (a_cons (e_ix ix_T (e_var 0 rfl) (e_var 2 rfl)) (a_cons (e_ix ix_T (e_var 1 rfl) (e_var 2 rfl)) a_nil))) (by first | rfl | (dsimp only [Cx.blk] <;> rfl)) (by first | rfl | (dsimp only [Cx.blk] <;> rfl))))) a_nil)))))⟩) ?_, F.bindsN fun _ _ _ _ _ _ us hl => match us, hl with | [_, _], _ => rfl⟩, F.kp, T.g_law_same⟩
  intro y post ep h
  dsimp only [endP, seqP, endI]
  rw [if_neg (by decide)]
  intro h1 h2
  by_cases a : (y.1.l.length : Int) = (y.2.1.l.length : Int)
  · rw [if_neg (by simpa using a)]
    intro _
    have a' : y.1.l.length = y.2.1.l.length := by omega
    rw [sizeLine_eq] at h2
    refine ⟨⟨by omega, by omega⟩, by rw [rangeI_len, sizeLine_eq]; omega, ?_⟩
    refine lcP_eq (fun _ => true) (fun k => decide (atI y.1.l k = atI y.2.1.l k)) _ (fun _ _ _ _ p => p) (fun k hk _ P ep p => ?_) ?_
    · obtain ⟨j, hj, rfl⟩ := rangeI_mem hk
      have e1 := atI_nat (xs := y.1.l) (j := j) (by omega)
      have e2 := atI_nat (xs := y.2.1.l) (j := j) (by omega)
      rw [e1, e2] at p
      refine ⟨_, e1, _, e2, ?_⟩
      simpa using p
    · have e : ((((rangeI 0 (Int.toNat (y.2.1.l.length : Int))).filter fun _ => true).map fun k => decide (atI y.1.l k = atI y.2.1.l k)).all id) = decide (y.1.l = y.2.1.l) := by
        rw [Bool.eq_iff_iff, List.all_eq_true, decide_eq_true_iff]
        constructor
        · intro q
          refine List.ext_getElem a' fun j k1 k2 => ?_
          have q1 := q (decide (atI y.1.l (j : Int) = atI y.2.1.l (j : Int))) (by
            refine List.mem_map.mpr ⟨(j : Int), ?_, rfl⟩
            rw [List.filter_eq_self.mpr fun _ _ => rfl]
            unfold rangeI
            exact List.mem_map.mpr ⟨j, List.mem_range.mpr (by omega), by omega⟩)
          have q2 := of_decide_eq_true q1
          rw [atI_nat k1, atI_nat k2] at q2
          exact Option.some.inj q2
        · intro q b hb
          obtain ⟨k, _, rfl⟩ := List.mem_map.mp hb
          rw [q]
          simp
      rw [e]
      exact h
  · rw [if_pos (by simpa using a)]
    have e : decide (y.1.l = y.2.1.l) = false := decide_eq_false fun z => a (by rw [z])
    rw [e] at h
    exact h
theorem sc_law_refused : FnScope ["plan", "raised"] ["plan"] (defScope s_law_refused) := ⟨rfl, rfl, rfl, by decide +kernel, rfl, by decide +kernel, by decide +kernel⟩
theorem ok_law_refused (T : Txt K mg) : Ok pw w K mg base "_law_refused" (He.fAd K ("_law_refused", none)) 9 ["plan"] (spOf K rs0 (aCons rpPl aNil) (rpT (i := rpI)) (fun x post _ => InvP x.1 ∧ post (tuF (fP x.1)))) := by
  obtain ⟨fd_law_madeL, F_law_madeL, B_law_madeL⟩ := (ok_law_madeL (w := w) (base := base) T).ex
  have K_law_madeL := (ok_law_madeL (w := w) (base := base) T).kp
  have G_law_madeL := (ok_law_madeL (w := w) (base := base) T).gm
  obtain ⟨fd, F⟩ := T.d_law_refused
  have nd := sc_law_refused.nd
  refine ⟨⟨fd, fn_ok F sc_law_refused (fun _ => rfl) (fun y cdv A outer s H G E hr => ⟨_, (b_try (mid := fun _ : Unit => [.val rpPl y.1, .no]) 1 rfl rfl nd rfl rfl T.g_InvalidNumber rfl rfl (by decide) T.x_xin (fun _ => rfl) (fun z => nomatch z) rfl
 (fun W pn xe tkT pa => JX.conv (jx_expr (e_call F_law_madeL (hr.mono (by decide)) G_law_madeL K_law_madeL B_law_madeL tkT (a_cons (e_var 0 rfl) (a_cons (e_ct list_T T.f_list (a_cons (e_ix ix_X4_2 (e_var 0 rfl) e_int) a_nil)) a_nil))) (jx_nil () (.cons (.refl _) (.cons (.refl _) .nil)))) (by first | rfl | (dsimp only [Cx.tr, Cx.suite, Xs, Cn.as] <;> rfl)) (by first | rfl | (dsimp only [Cx.tr, Cx.suite, Xs, Cn.as] <;> rfl)))
 (fun a oe cls d pn e hz hf => JB.conv (b_ret (e_tupT (a_cons (e_xf 1 T.x_err rfl T.x_nonum hz hf rfl) a_nil) (.cons .nil))) (by first | rfl | (dsimp only [Cx.tr, Cx.suite, Xs, Cn.as] <;> rfl)) (by first | rfl | (dsimp only [Cx.tr, Cx.suite, Xs, Cn.as] <;> rfl)))
 (fun _ => (b_ret (e_tupT a_nil .nil))))⟩) ?_, F.bindsN fun _ _ _ _ _ _ us hl => match us, hl with | [_], _ => rfl⟩, F.kp, T.g_law_refused⟩
  intro y post ep h
  dsimp only [endP, seqP, endI]
  obtain ⟨h1, h2⟩ := h
  refine ⟨rfl, ⟨h1, rfl⟩, ?_⟩
  cases hf : fP y.1 with
  | none =>
    rw [hf] at h2
    exact ⟨Nat.zero_le _, h2⟩
  | some n =>
    rw [hf] at h2
    exact ⟨rfl, rfl, n, rfl, by show 1 ≤ sizeLine; decide, h2⟩
theorem sc_law_below : FnScope ["tariff", "units", "called", "raised"] ["tariff", "units", "called"] (defScope s_law_below) := ⟨rfl, rfl, rfl, by decide +kernel, rfl, by decide +kernel, by decide +kernel⟩
theorem ok_law_below (T : Txt K mg) : Ok pw w K mg base "_law_below" (He.fAd K ("_law_below", none)) 7 ["tariff", "units", "called"] (spOf K rs0 (aCons rpTf (aCons rpI (aCons rpB aNil))) rpB (fun x post _ => (OkT x.1 ∧ x.2.1 < 0) ∧ post true)) := by
  have D_call := d_call (w := w) (base := base) T
  have D_price := d_price (w := w) (base := base) T
  obtain ⟨fd_law_isP, F_law_isP, B_law_isP⟩ := ok_law_isPP (w := w) (base := base) T
  have K_law_isP := (ok_law_is (w := w) (base := base) T).kp
  have G_law_isP := (ok_law_is (w := w) (base := base) T).gm
  obtain ⟨fd, F⟩ := T.d_law_below
  have nd := sc_law_below.nd
  refine ⟨⟨fd, fn_ok F sc_law_below (fun _ => rfl) (fun y cdv A outer s H G E hr => ⟨_, (b_try (mid := fun _ : Unit => [.val rpTf y.1, .val rpI y.2.1, .val rpB y.2.2.1, .no]) 3 rfl rfl nd rfl rfl T.g_InvalidNumber rfl rfl (by decide) T.x_xin (fun _ => rfl) (fun z => nomatch z) rfl
 (fun W pn xe tkT pa => JX.conv (jx_if (t_val (e_var 2 rfl)) (jx_expr (e_callO D_call (e_var 0 rfl) (hr.mono (by decide)) tkT (a_cons (e_var 1 rfl) a_nil)) (jx_nil () (.cons (.refl _) (.cons (.refl _) (.cons (.refl _) (.cons (.refl _) .nil)))))) (jx_expr (e_methD D_price (e_var 0 rfl) (hr.mono (by decide)) tkT (a_cons (e_var 1 rfl) a_nil)) (jx_nil () (.cons (.refl _) (.cons (.refl _) (.cons (.refl _) (.cons (.refl _) .nil))))))) (by first | rfl | (dsimp only [Cx.tr, Cx.suite, Xs, Cn.as] <;> rfl)) (by first | rfl | (dsimp only [Cx.tr, Cx.suite, Xs, Cn.as] <;> rfl)))
 (fun a oe cls d pn e hz hf => JB.conv (b_if (mid := fun s1 : Unit => [.val rpTf y.1, .val rpI y.2.1, .val rpB y.2.2.1, .val (rpEx a cls d) e]) (t_pw (tw_and (t_val (e_cb (isxw (cv := .ref (He.ga K "WorksError")) (u := .ref (He.ga K "WorksError")) (b := true) T.x_err rfl hz hf (fun _ z => z) T.x_iwe) T.f_isinstance (a_cons (e_var 3 rfl) (a_cons (e_clsO T.g_WorksError) a_nil)))) (tw_and1 (t_val (e_cb (isxw (cv := .ty "ValueError") (u := .type "ValueError") (b := true) T.x_err rfl hz hf (fun _ z => z) T.x_ive) T.f_isinstance (a_cons (e_var 3 rfl) (a_cons (e_clsB T.f_ValueError) a_nil)))))))
 (b_ret (e_callP F_law_isP (roomH_of (hr.mono (by decide))) G_law_isP K_law_isP B_law_isP rfl (a_cons (e_xf 3 T.x_err rfl T.x_nonum hz hf rfl) (a_cons (e_var 1 rfl) a_nil))))
 (b_nil () (.cons (.refl _) (.cons (.refl _) (.cons (.refl _) (.cons (.refl _) .nil)))))
 (fun s1 => (b_ret e_bool))) (by first | rfl | (dsimp only [Cx.tr, Cx.suite, Xs, Cn.as] <;> rfl)) (by first | rfl | (dsimp only [Cx.tr, Cx.suite, Xs, Cn.as] <;> rfl)))
 (fun _ => (b_ret e_bool)))⟩) ?_, F.bindsN fun _ _ _ _ _ _ us hl => match us, hl with | [_, _, _], _ => rfl⟩, F.kp, T.g_law_below⟩
  intro y post ep h
  dsimp only [endP, seqP, endI]
  obtain ⟨⟨h1, h2⟩, h3⟩ := h
  have g : ∃ m : Int, List.lookup ("number" : Str) [(("number" : Str), PyData.int y.2.1)] = some (Dat.enc rpI m) ∧ post (decide (m = y.2.1)) := ⟨y.2.1, rfl, by rw [decide_eq_true rfl]; exact h3⟩
  by_cases b : y.2.2.1 = true
  · rw [if_pos b, if_pos h2]
    exact ⟨h1, rfl, rfl, rfl, rfl, g⟩
  · rw [if_neg b, if_pos h2]
    exact ⟨h1, rfl, rfl, rfl, rfl, g⟩
theorem sc_law_pairs : FnScope ["told", "blocks", "k"] ["told", "blocks"] (defScope s_law_pairs) := ⟨rfl, rfl, rfl, by decide +kernel, rfl, by decide +kernel, by decide +kernel⟩
theorem ok_law_pairs (T : Txt K mg) : Ok pw w K mg base "_law_pairs" (He.fAd K ("_law_pairs", none)) 3 ["told", "blocks"] (spOf K rs0 (aCons (rpT (i := (rp2 (i := rpI) (j := rpI)))) (aCons (rpT (i := (rp2 (i := rpI) (j := rpI)))) aNil)) rpB (fun x post _ => x.1 = x.2.1 ∧ post true)) := by
  obtain ⟨fd_law_same, F_law_same, B_law_same⟩ := (ok_law_same (w := w) (base := base) T).ex
  have K_law_same := (ok_law_same (w := w) (base := base) T).kp
  have G_law_same := (ok_law_same (w := w) (base := base) T).gm
  obtain ⟨fd, F⟩ := T.d_law_pairs
  have nd := sc_law_pairs.nd
  refine ⟨⟨fd, fn_ok F sc_law_pairs (fun _ => rfl) (fun y cdv A outer s H G E hr => ⟨_, (b_if (mid := fun s1 : Unit => [.val (rpT (i := (rp2 (i := rpI) (j := rpI)))) y.1, .val (rpT (i := (rp2 (i := rpI) (j := rpI)))) y.2.1, .no]) (t_pw (tw_or (t_not (t_val (e_cb (isiw (cv := .ty "tuple") (u := .type "tuple") (b := true) tyT (.ty _) (L2.kit_ty (by decide +kernel))) T.f_isinstance (a_cons (e_var 0 rfl) (a_cons (e_clsB T.f_tuple) a_nil))))) (tw_or1 (t_cmp ne_V (e_cb len_T T.f_len (a_cons (e_var 0 rfl) a_nil)) (e_cb len_T T.f_len (a_cons (e_var 1 rfl) a_nil)) (nomark _)))))
 (b_ret e_bool)
 (b_nil () (.cons (.refl _) (.cons (.refl _) (.cons (.refl _) .nil))))
 (fun s1 => (b_ret (e_cb (all_L rfl) T.f_all (a_cons (e_lc rfl nd (blkOk_by (own := [("k", 2)]) (by show blkC ["told", "blocks", "k"] (defScope s_law_pairs) _ _ = true; decide +kernel)) (by decide) rfl (i_rng1 (by rfl) T.f_range (a_cons (e_cb len_T T.f_len (a_cons (e_var 1 rfl) a_nil)) a_nil)) (fun _ _ _ _ _ => (g_name 2 nd)) (fun _ _ _ _ _ c2 => ts_nil) (fun _ _ _ _ _ c2 => (JE.conv (e_call F_law_same (hr.mono (by decide)) G_law_same K_law_same B_law_same takes0 (a_cons (e_up up2 (e_ix ix_T (e_var 0 rfl) (e_var 2 rfl))) (a_cons (e_up up2 (e_ix ix_T (e_var 1 rfl) (e_var 2 rfl))) a_nil))) (by first | rfl | (dsimp only [Cx.blk] <;> rfl)) (by first | rfl | (dsimp only [Cx.blk] <;> rfl))))) a_nil)))))⟩) ?_, F.bindsN fun _ _ _ _ _ _ us hl => match us, hl with | [_, _], _ => rfl⟩, F.kp, T.g_law_pairs⟩
  intro y post ep h
  dsimp only [endP, seqP, endI]
  obtain ⟨h1, h2⟩ := h
  rw [if_neg (by decide)]
  intro k1 k2
  rw [if_neg (by rw [h1]; simp)]
  intro _
  rw [sizeLine_eq] at k2
  refine ⟨⟨by omega, by omega⟩, by rw [rangeI_len, sizeLine_eq]; omega, ?_⟩
  refine lcP_eq (fun _ => true) (fun _ => true) _ (fun _ _ _ _ p => p) (fun k hk _ P ep p => ?_) ?_
  · obtain ⟨j, hj, rfl⟩ := rangeI_mem hk
    have e2 := atI_nat (xs := y.2.1.l) (j := j) (by omega)
    refine ⟨_, by rw [h1]; exact e2, _, e2, ?_⟩
    rw [decide_eq_true rfl]
    exact p
  · have e : (((rangeI 0 (Int.toNat (y.2.1.l.length : Int))).filter fun _ => true).map fun _ => true).all id = true := by
      rw [List.all_eq_true]
      intro b hb
      obtain ⟨k, _, rfl⟩ := List.mem_map.mp hb
      rfl
    rw [e]
    exact h2
theorem sc_law_keeps : FnScope ["tariff", "plan"] ["tariff", "plan"] (defScope s_law_keeps) := ⟨rfl, rfl, rfl, by decide +kernel, rfl, by decide +kernel, by decide +kernel⟩
theorem ok_law_keeps (T : Txt K mg) : Ok pw w K mg base "_law_keeps" (He.fAd K ("_law_keeps", none)) 4 ["tariff", "plan"] (spOf K rs0 (aCons rpTf (aCons rpPl aNil)) rpB (fun x post _ => (OkP x.2.1 ∧ x.1 = mkT x.2.1) ∧ post true)) := by
  obtain ⟨fd_law_is, F_law_is, B_law_is⟩ := (ok_law_is (w := w) (base := base) T).ex
  have K_law_is := (ok_law_is (w := w) (base := base) T).kp
  have G_law_is := (ok_law_is (w := w) (base := base) T).gm
  obtain ⟨fd_law_pairs, F_law_pairs, B_law_pairs⟩ := (ok_law_pairs (w := w) (base := base) T).ex
  have K_law_pairs := (ok_law_pairs (w := w) (base := base) T).kp
  have G_law_pairs := (ok_law_pairs (w := w) (base := base) T).gm
  obtain ⟨fd, F⟩ := T.d_law_keeps
  have nd := sc_law_keeps.nd
  refine ⟨⟨fd, fn_ok F sc_law_keeps (fun _ => rfl) (fun y cdv A outer s H G E hr => ⟨_, (b_if (mid := fun s1 : Unit => [.val rpTf y.1, .val rpPl y.2.1]) (t_pw (tw_or (t_not (t_val (e_cb (isiwD (cv := .ref (He.ga K "Tariff")) (u := .ref (He.ga K "Tariff")) (b := fun _ => true) (ty_Tf T) (.own _) (k_T T)) T.f_isinstance (a_cons (e_var 0 rfl) (a_cons (e_clsO T.g_Tariff) a_nil))))) (tw_or1 (t_not (t_val (e_call F_law_is (hr.mono (by decide)) G_law_is K_law_is B_law_is (takes_of rfl rfl rfl rfl) (a_cons (e_fldC f_rate (fc_rate T) (e_var 0 rfl)) (a_cons (e_ix ix_X4_1 (e_var 1 rfl) e_int) a_nil))))))))
 (b_ret e_bool)
 (b_nil () (.cons (.refl _) (.cons (.refl _) .nil)))
 (fun s1 => (b_if (mid := fun s2 : Unit => [.val rpTf y.1, .val rpPl y.2.1]) (t_cmp eq_V (e_ix ix_X4_0 (e_var 1 rfl) e_int) e_int (nomark _))
 (b_ret e_bool)
 (b_nil () (.cons (.refl _) (.cons (.refl _) .nil)))
 (fun s2 => (b_if (mid := fun s3 : Unit => [.val rpTf y.1, .val rpPl y.2.1]) (t_pw (tw_or (t_not (t_val (e_cb (isiwD (cv := .ref (He.ga K "BlockTariff")) (u := .ref (He.ga K "BlockTariff")) (b := fun m => decide (m.kind ≠ 0)) (ty_Tf T) (.own _) (k_B T)) T.f_isinstance (a_cons (e_var 0 rfl) (a_cons (e_clsO T.g_BlockTariff) a_nil))))) (tw_or1 (t_not (t_val (e_call F_law_pairs (hr.mono (by decide)) G_law_pairs K_law_pairs B_law_pairs (takes_of rfl rfl rfl rfl) (a_cons (e_fldC f_blocks (fc_blocks T) (e_var 0 rfl)) (a_cons (e_ix ix_X4_2 (e_var 1 rfl) e_int) a_nil))))))))
 (b_ret e_bool)
 (b_nil () (.cons (.refl _) (.cons (.refl _) .nil)))
 (fun s3 => (b_if (mid := fun s4 : Unit => [.val rpTf y.1, .val rpPl y.2.1]) (t_cmp eq_V (e_ix ix_X4_0 (e_var 1 rfl) e_int) e_int (nomark _))
 (b_ret e_bool)
 (b_nil () (.cons (.refl _) (.cons (.refl _) .nil)))
 (fun s4 => (b_ret (e_and (e_cb (isiwD (cv := .ref (He.ga K "FreeTariff")) (u := .ref (He.ga K "FreeTariff")) (b := fun m => decide (m.kind ≠ 0 ∧ m.kind ≠ 1)) (ty_Tf T) (.own _) (k_F T)) T.f_isinstance (a_cons (e_var 0 rfl) (a_cons (e_clsO T.g_FreeTariff) a_nil))) (e_one (e_call F_law_is (hr.mono (by decide)) G_law_is K_law_is B_law_is (takes_of rfl rfl rfl rfl) (a_cons (e_fldC f_free (fc_free T) (e_var 0 rfl)) (a_cons (e_ix ix_X4_3 (e_var 1 rfl) e_int) a_nil))))))))))))))⟩) ?_, F.bindsN fun _ _ _ _ _ _ us hl => match us, hl with | [_, _], _ => rfl⟩, F.kp, T.g_law_keeps⟩
  intro y post ep h
  dsimp only [endP, seqP, endI]
  obtain ⟨⟨h1, h2⟩, h3⟩ := h
  obtain ⟨⟨k1, k2, k3, k4⟩, _⟩ := h1
  rw [h2, if_neg (by decide)]
  refine ⟨trivial, rfl, ?_⟩
  rw [if_neg (by simp [mkT])]
  refine ⟨rfl, ?_⟩
  by_cases a : y.2.1.x0 = 0
  · rw [if_pos (decide_eq_true a)]
    exact h3
  · rw [if_neg (by simpa using a), if_neg (by rw [decide_eq_true (show (mkT y.2.1).kind ≠ 0 from a)]; decide)]
    refine ⟨a, rfl, rfl, ?_⟩
    rw [if_neg (by decide)]
    refine ⟨rfl, ?_⟩
    by_cases b : y.2.1.x0 = 1
    · rw [if_pos (decide_eq_true b)]
      exact h3
    · have e : (mkT y.2.1).kind ≠ 0 ∧ (mkT y.2.1).kind ≠ 1 := ⟨a, b⟩
      rw [if_neg (by simpa using b), if_pos (decide_eq_true e)]
      refine ⟨e, rfl, ?_⟩
      rw [decide_eq_true (show (mkT y.2.1).free = y.2.1.x3 from rfl)]
      exact h3
theorem sc_law_holds : FnScope ["tariff", "plan", "asked", "below", "units"] ["tariff", "plan", "asked", "below"] (defScope s_law_holds) := ⟨rfl, rfl, rfl, by decide +kernel, rfl, by decide +kernel, by decide +kernel⟩
theorem ok_law_holds (T : Txt K mg) : Ok pw w K mg base "_law_holds" (He.fAd K ("_law_holds", none)) 8 ["tariff", "plan", "asked", "below"] (spOf K rs0 (aCons rpTf (aCons rpPl (aCons (rpL (i := rpI)) (aCons rpI aNil)))) rpB (fun x post _ => (OkP x.2.1 ∧ x.1 = mkT x.2.1 ∧ (∀ u ∈ x.2.2.1, 0 ≤ u) ∧ x.2.2.2.1 < 0) ∧ post true)) := by
  obtain ⟨fd_law_is, F_law_is, B_law_is⟩ := (ok_law_is (w := w) (base := base) T).ex
  have K_law_is := (ok_law_is (w := w) (base := base) T).kp
  have G_law_is := (ok_law_is (w := w) (base := base) T).gm
  obtain ⟨fd_law_price, F_law_price, B_law_price⟩ := (ok_law_price (w := w) (base := base) T).ex
  have K_law_price := (ok_law_price (w := w) (base := base) T).kp
  have G_law_price := (ok_law_price (w := w) (base := base) T).gm
  have D_price := d_price (w := w) (base := base) T
  have D_call := d_call (w := w) (base := base) T
  obtain ⟨fd_law_below, F_law_below, B_law_below⟩ := (ok_law_below (w := w) (base := base) T).ex
  have K_law_below := (ok_law_below (w := w) (base := base) T).kp
  have G_law_below := (ok_law_below (w := w) (base := base) T).gm
  obtain ⟨fd_law_keeps, F_law_keeps, B_law_keeps⟩ := (ok_law_keeps (w := w) (base := base) T).ex
  have K_law_keeps := (ok_law_keeps (w := w) (base := base) T).kp
  have G_law_keeps := (ok_law_keeps (w := w) (base := base) T).gm
  obtain ⟨fd, F⟩ := T.d_law_holds
  have nd := sc_law_holds.nd
  refine ⟨⟨fd, fn_ok F sc_law_holds (fun _ => rfl) (fun y cdv A outer s H G E hr => ⟨_, (b_for (lpS := fun s1 : Unit => [.val rpTf y.1, .val rpPl y.2.1, .val (rpL (i := rpI)) y.2.2.1, .val rpI y.2.2.2.1, .no]) () (.cons (.refl _) (.cons (.refl _) (.cons (.refl _) (.cons (.refl _) (.cons (.refl _) .nil))))) (passes_of rfl) rfl (i_lst (e_var 2 rfl)) (g_name 4 nd)
 (fun x2 s1 => (b_if (mid := fun s3 : Unit => [.val rpTf y.1, .val rpPl y.2.1, .val (rpL (i := rpI)) y.2.2.1, .val rpI y.2.2.2.1, .val rpI x2]) (t_not (t_val (e_call F_law_is (hr.mono (by decide)) G_law_is K_law_is B_law_is (takes_of rfl rfl rfl rfl) (a_cons (e_methD D_price (e_var 0 rfl) (hr.mono (by decide)) (takes_of rfl rfl rfl rfl) (a_cons (e_var 4 rfl) a_nil)) (a_cons (e_call F_law_price (hr.mono (by decide)) G_law_price K_law_price B_law_price (takes_of rfl rfl rfl rfl) (a_cons (e_var 1 rfl) (a_cons (e_var 4 rfl) a_nil))) a_nil)))))
 (b_ret e_bool)
 (b_nil () (.cons (.refl _) (.cons (.refl _) (.cons (.refl _) (.cons (.refl _) (.cons (.refl _) .nil))))))
 (fun s3 => (b_ifE (t_not (t_val (e_call F_law_is (hr.mono (by decide)) G_law_is K_law_is B_law_is (takes_of rfl rfl rfl rfl) (a_cons (e_callO D_call (e_var 0 rfl) (hr.mono (by decide)) (takes_of rfl rfl rfl rfl) (a_cons (e_var 4 rfl) a_nil)) (a_cons (e_call F_law_price (hr.mono (by decide)) G_law_price K_law_price B_law_price (takes_of rfl rfl rfl rfl) (a_cons (e_var 1 rfl) (a_cons (e_var 4 rfl) a_nil))) a_nil)))))
 (b_ret e_bool)
 (b_nil () (.cons (.refl _) (.cons (.refl _) (.cons (.refl _) (.cons (.refl _) (.cons (.no _) .nil))))))))))
 (fun s1 => (b_if (mid := fun s4 : Unit => [.val rpTf y.1, .val rpPl y.2.1, .val (rpL (i := rpI)) y.2.2.1, .val rpI y.2.2.2.1, .no]) (t_pw (tw_or (t_not (t_val (e_call F_law_below (hr.mono (by decide)) G_law_below K_law_below B_law_below (takes_of rfl rfl rfl rfl) (a_cons (e_var 0 rfl) (a_cons (e_var 3 rfl) (a_cons e_bool a_nil)))))) (tw_or1 (t_not (t_val (e_call F_law_below (hr.mono (by decide)) G_law_below K_law_below B_law_below (takes_of rfl rfl rfl rfl) (a_cons (e_var 0 rfl) (a_cons (e_var 3 rfl) (a_cons e_bool a_nil)))))))))
 (b_ret e_bool)
 (b_nil () (.cons (.refl _) (.cons (.refl _) (.cons (.refl _) (.cons (.refl _) (.cons (.refl _) .nil))))))
 (fun s4 => (b_ret (e_call F_law_keeps (hr.mono (by decide)) G_law_keeps K_law_keeps B_law_keeps (takes_of rfl rfl rfl rfl) (a_cons (e_var 0 rfl) (a_cons (e_var 1 rfl) a_nil))))))))⟩) ?_, F.bindsN fun _ _ _ _ _ _ us hl => match us, hl with | [_, _, _, _], _ => rfl⟩, F.kp, T.g_law_holds⟩
  intro y post ep h
  dsimp only [endP, seqP, endI]
  obtain ⟨⟨h1, h2, h3, h4⟩, h5⟩ := h
  have t : OkT y.1 := h2 ▸ h1.t
  obtain ⟨o1, o2, o3⟩ := h1.out
  intro _
  refine forP_ind (fun rest _ => ∀ u ∈ rest, 0 ≤ u) (fun s _ => ?_) (fun u r s next hn hi => ?_) _ _ h3
  · refine ⟨⟨t, h4⟩, ?_⟩
    rw [if_neg (by decide)]
    refine ⟨⟨t, h4⟩, ?_⟩
    rw [if_neg (by decide)]
    exact ⟨⟨h1, h2⟩, h5⟩
  · have u0 := hi u List.mem_cons_self
    have e : priceT y.1 u = bl (max 0 (u - y.2.1.x3)) (y.2.1.x1 * max 0 (u - y.2.1.x3)) y.2.1.x2.l := by
      rw [h2]
      exact price_eq h1.1 u0
    have d : ∀ b ∈ y.2.1.x2.l, okN b.2 := fun b hb => (fB_ok o2 b hb).2.2
    refine ⟨t, ?_⟩
    rw [if_neg (by omega)]
    refine ⟨⟨o1, d⟩, ?_⟩
    rw [if_neg (by simp [e])]
    refine ⟨t, ?_⟩
    rw [if_neg (by omega)]
    refine ⟨⟨o1, d⟩, ?_⟩
    rw [if_neg (by simp [e])]
    exact hn _ fun v hv => hi v (List.mem_cons_of_mem _ hv)
theorem sc_law_refuses : FnScope ["bag", "plan", "turn", "bent", "due"] ["bag", "plan"] (defScope s_law_refuses) := ⟨rfl, rfl, rfl, by decide +kernel, rfl, by decide +kernel, by decide +kernel⟩
theorem ok_law_refuses (T : Txt K mg) : Ok pw w K mg base "_law_refuses" (He.fAd K ("_law_refuses", none)) 10 ["bag", "plan"] (spR K (rsG 2) (fun q => (aRf q (aCons rpPl aNil))) rpB (fun x post _ => InvP x.1 ∧ post true)) := by
  obtain ⟨fd_law_bent, F_law_bent, B_law_bent⟩ := (ok_law_bent (w := w) (base := base) T).ex
  have K_law_bent := (ok_law_bent (w := w) (base := base) T).kp
  have G_law_bent := (ok_law_bent (w := w) (base := base) T).gm
  obtain ⟨fd_law_take, F_law_take, B_law_take⟩ := (ok_law_take (w := w) (base := base) T).ex
  have K_law_take := (ok_law_take (w := w) (base := base) T).kp
  have G_law_take := (ok_law_take (w := w) (base := base) T).gm
  obtain ⟨fd_law_fault, F_law_fault, B_law_fault⟩ := (ok_law_fault (w := w) (base := base) T).ex
  have K_law_fault := (ok_law_fault (w := w) (base := base) T).kp
  have G_law_fault := (ok_law_fault (w := w) (base := base) T).gm
  obtain ⟨fd_law_same, F_law_same, B_law_same⟩ := (ok_law_same (w := w) (base := base) T).ex
  have K_law_same := (ok_law_same (w := w) (base := base) T).kp
  have G_law_same := (ok_law_same (w := w) (base := base) T).gm
  obtain ⟨fd_law_refused, F_law_refused, B_law_refused⟩ := (ok_law_refused (w := w) (base := base) T).ex
  have K_law_refused := (ok_law_refused (w := w) (base := base) T).kp
  have G_law_refused := (ok_law_refused (w := w) (base := base) T).gm
  obtain ⟨fd_law_holds, F_law_holds, B_law_holds⟩ := (ok_law_holds (w := w) (base := base) T).ex
  have K_law_holds := (ok_law_holds (w := w) (base := base) T).kp
  have G_law_holds := (ok_law_holds (w := w) (base := base) T).gm
  obtain ⟨fd_law_madeT, F_law_madeT, B_law_madeT⟩ := (ok_law_madeT (w := w) (base := base) T).ex
  have K_law_madeT := (ok_law_madeT (w := w) (base := base) T).kp
  have G_law_madeT := (ok_law_madeT (w := w) (base := base) T).gm
  obtain ⟨fd, F⟩ := T.d_law_refuses
  have nd := sc_law_refuses.nd
  refine ⟨⟨fd, fn_okR F sc_law_refuses (fun _ _ => rfl) (fun q y cdv A outer s H G E hr => ⟨_, (b_for (lpS := fun s1 : Unit => [.rf q, .val rpPl y.1, .no, .no, .no]) () (.cons (.refl _) (.cons (.refl _) (.cons (.refl _) (.cons (.refl _) (.cons (.refl _) .nil))))) (passes_of rfl) rfl (i_rng1 (by rfl) T.f_range (a_cons e_int a_nil)) (g_name 2 nd)
 (fun x2 s1 => (b_set 3 nd (e_callR rfl F_law_bent (hr.mono (by decide)) G_law_bent K_law_bent B_law_bent (takes_of rfl rfl rfl rfl) (a_rf 0 rfl (a_cons (e_var 1 rfl) a_nil)))
 (fun bent_3 => (b_if (mid := fun s4 : Pl => [.rf q, .val rpPl y.1, .val rpI x2, .val rpPl s4, .no]) (t_cmp eq_V (e_callR rfl F_law_take (hr.mono (by decide)) G_law_take K_law_take B_law_take (takes_of rfl rfl rfl rfl) (a_rf 0 rfl (a_cons e_int a_nil))) e_int (nomark _))
 (b_set 3 nd (e_callR rfl F_law_bent (hr.mono (by decide)) G_law_bent K_law_bent B_law_bent (takes_of rfl rfl rfl rfl) (a_rf 0 rfl (a_cons (e_var 3 rfl) a_nil)))
 (fun bent_5 => (b_nil bent_5 (.cons (.refl _) (.cons (.refl _) (.cons (.refl _) (.cons (.refl _) (.cons (.refl _) .nil))))))))
 (b_nil bent_3 (.cons (.refl _) (.cons (.refl _) (.cons (.refl _) (.cons (.refl _) (.cons (.refl _) .nil))))))
 (fun s4 => (b_set 4 nd (e_call F_law_fault (hr.mono (by decide)) G_law_fault K_law_fault B_law_fault (takes_of rfl rfl rfl rfl) (a_cons (e_var 3 rfl) a_nil))
 (fun due_6 => (b_if (mid := fun s7 : Unit => [.rf q, .val rpPl y.1, .val rpI x2, .val rpPl s4, .val (rpT (i := rpI)) due_6]) (t_not (t_val (e_call F_law_same (hr.mono (by decide)) G_law_same K_law_same B_law_same (takes_of rfl rfl rfl rfl) (a_cons (e_call F_law_refused (hr.mono (by decide)) G_law_refused K_law_refused B_law_refused (takes_of rfl rfl rfl rfl) (a_cons (e_var 3 rfl) a_nil)) (a_cons (e_var 4 rfl) a_nil)))))
 (b_ret e_bool)
 (b_nil () (.cons (.refl _) (.cons (.refl _) (.cons (.refl _) (.cons (.refl _) (.cons (.refl _) .nil))))))
 (fun s7 => (b_ifE (t_pw (tw_and (t_cmp (eq_D hr.units) (e_var 4 rfl) (e_tupT a_nil .nil) (nomark _)) (tw_and1 (t_not (t_val (e_call F_law_holds (hr.mono (by decide)) G_law_holds K_law_holds B_law_holds (takes_of rfl rfl rfl rfl) (a_cons (e_call F_law_madeT (hr.mono (by decide)) G_law_madeT K_law_madeT B_law_madeT (takes_of rfl rfl rfl rfl) (a_cons (e_var 3 rfl) (a_cons (e_ix ix_X4_2 (e_var 3 rfl) e_int) a_nil))) (a_cons (e_var 3 rfl) (a_cons (e_list (iα := rpI) (a_cons e_int (a_cons e_int (a_cons e_int a_nil))) (.cons (.cons (.cons .nil)))) (a_cons (e_un neg_I e_int) a_nil))))))))))
 (b_ret e_bool)
 (b_nil () (.cons (.refl _) (.cons (.refl _) (.cons (.no _) (.cons (.no _) (.cons (.no _) .nil))))))))))))))))
 (fun s1 => (b_ret e_bool)))⟩) ?_, F.bindsN fun _ _ _ _ _ _ us hl => match us, hl with | [_, _], _ => rfl⟩, F.kp, T.g_law_refuses⟩
  intro y post ep h
  dsimp only [endP, seqP, endI]
  obtain ⟨h1, h2⟩ := h
  refine ⟨⟨by decide, by decide⟩, ?_⟩
  refine forP_ind (fun _ _ => True) (fun _ _ => h2) (fun x r s next hn _ => ⟨h1, fun p hp => ⟨⟨by decide, by decide⟩, fun n n1 n2 => ?_⟩⟩) _ _ trivial
  have us : ∀ u : Int, u ∈ [(0 : Int), 10001, 30000] → 0 ≤ u := fun u hu => by
    simp only [List.mem_cons, List.not_mem_nil, or_false] at hu
    omega
  have okd : ∀ o : Option Int, Dat.ok (rpT (i := rpI)) (tuF o) := fun o m hm => trivial
  have fin : ∀ p : Pl, InvP p → fL p = none → exO (fP p) ([(0 : Int), 10001, 30000].length ≤ sizeLine ∧ (OkP p ∧ mkT p = mkT p ∧ (∀ u : Int, u ∈ [(0 : Int), 10001, 30000] → 0 ≤ u) ∧ (-1 : Int) < 0) ∧ if (!true) = true then post false else next ()) ep := fun p hp hf => by
    rw [fPL hp, hf]
    exact ⟨by show 3 ≤ sizeLine; decide, ⟨⟨hp, hf⟩, rfl, us, by decide⟩, hn _ trivial⟩
  have go : ∀ p : Pl, InvP p → decide ((tuF (fP p)).l = (tuF (fL p)).l) = true := fun p hp => decide_eq_true (tuF_eq (fPL hp))
  by_cases a : n = 0
  · rw [if_pos (decide_eq_true a)]
    refine ⟨hp, fun p2 hp2 => ⟨hp2, ?_⟩⟩
    rw [go p2 hp2, if_neg (by decide)]
    refine ⟨Nat.zero_le _, okd _, okd none, ?_⟩
    by_cases b : tuF (fL p2) = ⟨[]⟩
    · rw [if_pos (decide_eq_true b)]
      exact ⟨rfl, ⟨hp2, rfl⟩, fin p2 hp2 (tuF_none b)⟩
    · rw [if_neg (by simpa using b), if_neg (by decide)]
      exact hn _ trivial
  · rw [if_neg (by simpa using a)]
    refine ⟨hp, ?_⟩
    rw [go p hp, if_neg (by decide)]
    refine ⟨Nat.zero_le _, okd _, okd none, ?_⟩
    by_cases b : tuF (fL p) = ⟨[]⟩
    · rw [if_pos (decide_eq_true b)]
      exact ⟨rfl, ⟨hp, rfl⟩, fin p hp (tuF_none b)⟩
    · rw [if_neg (by simpa using b), if_neg (by decide)]
      exact hn _ trivial
end
end K30

set_option Elab.async false
set_option linter.all false
set_option maxRecDepth 100000
set_option maxHeartbeats 1000000
set_option autoImplicit false
namespace K30
open PySem PySem.Spec PyProof.Rows L2 Ty NdefX L2H
section
variable {w : World} {K : Fg} {mg : Str → Option Value} {base : Heap}
theorem sc_law : FnScope ["script", "bag", "turn", "plans", "tariffs", "plan", "given", "asked", "below", "k"] ["script"] (defScope s_law) := ⟨rfl, rfl, rfl, by decide +kernel, rfl, by decide +kernel, by decide +kernel⟩
theorem ok_law (T : Txt K mg) : ∃ fd, FunD K "law" "law" (defArgs s_law) (defBody s_law) (defScope s_law) [] [] (He.fAd K ("law", none)) fd ∧ ∀ base : Heap, FnOk pw w K mg base (L2.CX pw w) 11 (He.fAd K ("law", none)) fd ["script"] (spL K 63) := by
  obtain ⟨fd, F⟩ := T.d_law
  refine ⟨fd, F, fun base => ?_⟩
  obtain ⟨fd_law_bag, F_law_bag, B_law_bag⟩ := (ok_law_bag (w := w) (base := base) T).ex
  have K_law_bag := (ok_law_bag (w := w) (base := base) T).kp
  have G_law_bag := (ok_law_bag (w := w) (base := base) T).gm
  obtain ⟨fd_law_take, F_law_take, B_law_take⟩ := (ok_law_take (w := w) (base := base) T).ex
  have K_law_take := (ok_law_take (w := w) (base := base) T).kp
  have G_law_take := (ok_law_take (w := w) (base := base) T).gm
  obtain ⟨fd_law_plan, F_law_plan, B_law_plan⟩ := (ok_law_plan (w := w) (base := base) T).ex
  have K_law_plan := (ok_law_plan (w := w) (base := base) T).kp
  have G_law_plan := (ok_law_plan (w := w) (base := base) T).gm
  obtain ⟨fd_law_madeT, F_law_madeT, B_law_madeT⟩ := (ok_law_madeT (w := w) (base := base) T).ex
  have K_law_madeT := (ok_law_madeT (w := w) (base := base) T).kp
  have G_law_madeT := (ok_law_madeT (w := w) (base := base) T).gm
  obtain ⟨fd_law_madeL, F_law_madeL, B_law_madeL⟩ := (ok_law_madeL (w := w) (base := base) T).ex
  have K_law_madeL := (ok_law_madeL (w := w) (base := base) T).kp
  have G_law_madeL := (ok_law_madeL (w := w) (base := base) T).gm
  obtain ⟨fd_law_units, F_law_units, B_law_units⟩ := (ok_law_units (w := w) (base := base) T).ex
  have K_law_units := (ok_law_units (w := w) (base := base) T).kp
  have G_law_units := (ok_law_units (w := w) (base := base) T).gm
  obtain ⟨fd_law_holds, F_law_holds, B_law_holds⟩ := (ok_law_holds (w := w) (base := base) T).ex
  have K_law_holds := (ok_law_holds (w := w) (base := base) T).kp
  have G_law_holds := (ok_law_holds (w := w) (base := base) T).gm
  obtain ⟨fd_law_refuses, F_law_refuses, B_law_refuses⟩ := (ok_law_refuses (w := w) (base := base) T).ex
  have K_law_refuses := (ok_law_refuses (w := w) (base := base) T).kp
  have G_law_refuses := (ok_law_refuses (w := w) (base := base) T).gm
  have nd := sc_law.nd
  refine fn_okBg (nb := 2) F rfl sc_law (by decide) (fun cdv A outer s H E hr => ⟨_, ps_set nd rfl (.inr rfl) (e_call (c := Cc rs0 H H E) (ρ := .val rpQ [] :: List.replicate 9 .no) F_law_bag (hr.mono (by decide)) G_law_bag K_law_bag B_law_bag (takes_of rfl rfl rfl rfl) (a_cons (e_var 0 rfl) a_nil)).pe, fun ns => (e_call F_law_bag (hr.mono (by decide)) G_law_bag K_law_bag B_law_bag (takes_of rfl rfl rfl rfl) (a_cons (e_var 0 rfl) a_nil))⟩) (fun cdv A outer s H E hr => ⟨_, fun p H1 => JB.conv (b_setLc 3 rfl nd (blkOk_by (own := [("turn", 2)]) (by show blkC ["script", "bag", "turn", "plans", "tariffs", "plan", "given", "asked", "below", "k"] (defScope s_law) _ _ = true; decide +kernel)) (by decide) rfl (i_rng1 (by rfl) T.f_range (a_cons (e_op add_I e_int (e_callR rfl F_law_take (hr.mono (by decide)) G_law_take K_law_take B_law_take (takes_of rfl rfl rfl rfl) (a_rf 1 rfl (a_cons e_int a_nil)))) a_nil)) (fun _ _ _ _ _ => (g_name 2 nd)) (fun _ _ _ _ _ c2 => ts_nil) (fun _ _ _ _ _ c2 => (JE.conv (e_callR rfl F_law_plan (hr.mono (by decide)) G_law_plan K_law_plan B_law_plan takes0 (a_rf 1 rfl a_nil)) (by first | rfl | (dsimp only [Cx.blk] <;> rfl)) (by first | rfl | (dsimp only [Cx.blk] <;> rfl))))
 (fun plans_1 => (b_new rpTf 4 nd (b_for (lpS := fun s3 : (List Tf) => [.no, .rf p, .no, .val (rpL (i := rpPl)) plans_1, .ml rpTf s3, .no, .no, .no, .no, .no]) [] (.cons (.refl _) (.cons (.refl _) (.cons (.refl _) (.cons (.refl _) (.cons (.refl _) (.cons (.refl _) (.cons (.refl _) (.cons (.refl _) (.cons (.refl _) (.cons (.refl _) .nil)))))))))) (passes_of rfl) rfl (i_lst (e_var 3 rfl)) (g_name 5 nd)
 (fun x4 s3 => (b_newT 6 nd T.f_list (e_ix ix_X4_2 (e_var 5 rfl) e_int)
 (fun m5 => (b_if (mid := fun s6 : (List Tf) => [.no, .rf p, .no, .val (rpL (i := rpPl)) plans_1, .ml rpTf s6, .val rpPl x4, .ml (rp2 (i := rpI) (j := rpI)) m5.l, .no, .no, .no]) (t_cmp eq_V (e_callR rfl F_law_take (hr.mono (by decide)) G_law_take K_law_take B_law_take (takes_of rfl rfl rfl rfl) (a_rf 1 rfl (a_cons e_int a_nil))) e_int (nomark _))
 (b_app1 4 rfl (e_call F_law_madeT (hr.mono (by decide)) G_law_madeT K_law_madeT B_law_madeT (takes_of rfl rfl rfl rfl) (a_cons (e_var 5 rfl) (a_cons (e_ix ix_X4_2 (e_var 5 rfl) e_int) a_nil)))
 (fun m7 => (b_nil (s3 ++ [m7]) (.cons (.refl _) (.cons (.refl _) (.cons (.refl _) (.cons (.refl _) (.cons (.refl _) (.cons (.refl _) (.cons (.refl _) (.cons (.refl _) (.cons (.refl _) (.cons (.refl _) .nil)))))))))))))
 (b_app1 4 rfl (e_callL 6 rfl F_law_madeL (hr.mono (by decide)) G_law_madeL K_law_madeL B_law_madeL (takes_of rfl rfl rfl rfl) (e_var 5 rfl))
 (fun m8 => (b_nil (s3 ++ [m8]) (.cons (.refl _) (.cons (.refl _) (.cons (.refl _) (.cons (.refl _) (.cons (.refl _) (.cons (.refl _) (.cons (.refl _) (.cons (.refl _) (.cons (.refl _) (.cons (.refl _) .nil)))))))))))))
 (fun s6 => (b_if (mid := fun s9 : Unit => [.no, .rf p, .no, .val (rpL (i := rpPl)) plans_1, .ml rpTf s6, .val rpPl x4, .ml (rp2 (i := rpI) (j := rpI)) m5.l, .no, .no, .no]) (t_cmpM 6 rfl (ne_D hr.units) (e_ct list_T T.f_list (a_cons (e_ix ix_X4_2 (e_var 5 rfl) e_int) a_nil)) (nomark _))
 (b_ret e_bool)
 (b_nil () (.cons (.refl _) (.cons (.refl _) (.cons (.refl _) (.cons (.refl _) (.cons (.refl _) (.cons (.refl _) (.cons (.refl _) (.cons (.refl _) (.cons (.refl _) (.cons (.refl _) .nil)))))))))))
 (fun s9 => (b_app1 6 rfl (e_tup2 (a_cons e_int (a_cons e_int a_nil)))
 (fun m10 => (b_setM 6 rfl (e_tup2 (a_cons e_int (a_cons e_int a_nil))) e_int
 (fun m11 k12 => (b_nil s6 (.cons (.refl _) (.cons (.refl _) (.cons (.refl _) (.cons (.refl _) (.cons (.refl _) (.cons (.no _) (.cons (.no _) (.cons (.refl _) (.cons (.refl _) (.cons (.refl _) .nil))))))))))))))))))))))
 (fun s3 => (b_setLc 7 rfl nd (blkOk_by (own := [("plan", 5)]) (by show blkC ["script", "bag", "turn", "plans", "tariffs", "plan", "given", "asked", "below", "k"] (defScope s_law) _ _ = true; decide +kernel)) (by decide) rfl (i_lst (e_var 3 rfl)) (fun _ _ _ _ _ => (g_name 5 nd)) (fun _ _ _ _ _ c14 => ts_nil) (fun _ _ _ _ _ c14 => (JE.conv (e_callR rfl F_law_units (hr.mono (by decide)) G_law_units K_law_units B_law_units takes0 (a_rf 1 rfl (a_cons (e_var 5 rfl) a_nil))) (by first | rfl | (dsimp only [Cx.blk] <;> rfl)) (by first | rfl | (dsimp only [Cx.blk] <;> rfl))))
 (fun asked_13 => (b_set 8 nd (e_op sub_I (e_un neg_I e_int) (e_op mul_I (e_callR rfl F_law_take (hr.mono (by decide)) G_law_take K_law_take B_law_take (takes_of rfl rfl rfl rfl) (a_rf 1 rfl (a_cons e_int a_nil))) (e_callR rfl F_law_take (hr.mono (by decide)) G_law_take K_law_take B_law_take (takes_of rfl rfl rfl rfl) (a_rf 1 rfl (a_cons e_int a_nil)))))
 (fun below_15 => (b_for (lpS := fun s16 : Unit => [.no, .rf p, .no, .val (rpL (i := rpPl)) plans_1, .ml rpTf s3, .no, .no, .val (rpL (i := (rpL (i := rpI)))) asked_13, .val rpI below_15, .no]) () (.cons (.refl _) (.cons (.refl _) (.cons (.refl _) (.cons (.refl _) (.cons (.refl _) (.cons (.refl _) (.cons (.refl _) (.cons (.refl _) (.cons (.refl _) (.cons (.refl _) .nil)))))))))) (passes_of rfl) rfl (i_rng1 (by rfl) T.f_range (a_cons e_int a_nil)) (g_name 2 nd)
 (fun x17 s16 => (b_for (lpS := fun s18 : Unit => [.no, .rf p, .val rpI x17, .val (rpL (i := rpPl)) plans_1, .ml rpTf s3, .no, .no, .val (rpL (i := (rpL (i := rpI)))) asked_13, .val rpI below_15, .no]) () (.cons (.refl _) (.cons (.refl _) (.cons (.refl _) (.cons (.refl _) (.cons (.refl _) (.cons (.refl _) (.cons (.refl _) (.cons (.refl _) (.cons (.refl _) (.cons (.refl _) .nil)))))))))) (passes_of rfl) rfl (i_rng1 (by rfl) T.f_range (a_cons (e_cb len_L T.f_len (a_cons (e_var 3 rfl) a_nil)) a_nil)) (g_name 9 nd)
 (fun x19 s18 => (b_if (mid := fun s20 : Unit => [.no, .rf p, .val rpI x17, .val (rpL (i := rpPl)) plans_1, .ml rpTf s3, .no, .no, .val (rpL (i := (rpL (i := rpI)))) asked_13, .val rpI below_15, .val rpI x19]) (t_not (t_val (e_call F_law_holds (hr.mono (by decide)) G_law_holds K_law_holds B_law_holds (takes_of rfl rfl rfl rfl) (a_cons (e_ixM (j := 4) rfl (e_var 9 rfl)) (a_cons (e_ix ix_L (e_var 3 rfl) (e_var 9 rfl)) (a_cons (e_ix ix_L (e_var 7 rfl) (e_var 9 rfl)) (a_cons (e_var 8 rfl) a_nil)))))))
 (b_ret e_bool)
 (b_nil () (.cons (.refl _) (.cons (.refl _) (.cons (.refl _) (.cons (.refl _) (.cons (.refl _) (.cons (.refl _) (.cons (.refl _) (.cons (.refl _) (.cons (.refl _) (.cons (.refl _) .nil)))))))))))
 (fun s20 => (b_ifE (t_pw (tw_and (t_cmp eq_V (e_var 2 rfl) e_int (nomark _)) (tw_and1 (t_not (t_val (e_callR rfl F_law_refuses (hr.mono (by decide)) G_law_refuses K_law_refuses B_law_refuses (takes_of rfl rfl rfl rfl) (a_rf 1 rfl (a_cons (e_ix ix_L (e_var 3 rfl) (e_var 9 rfl)) a_nil))))))))
 (b_ret e_bool)
 (b_nil () (.cons (.refl _) (.cons (.refl _) (.cons (.refl _) (.cons (.refl _) (.cons (.refl _) (.cons (.refl _) (.cons (.refl _) (.cons (.refl _) (.cons (.refl _) (.cons (.no _) .nil)))))))))))))))
 (fun s18 => (b_nil () (.cons (.refl _) (.cons (.refl _) (.cons (.no _) (.cons (.refl _) (.cons (.refl _) (.cons (.refl _) (.cons (.refl _) (.cons (.refl _) (.cons (.refl _) (.cons (.refl _) .nil))))))))))))))
 (fun s16 => (b_ret e_bool)))))))))))) (by dsimp only [Cc] <;> rfl) (by first | rfl | (dsimp only [Cc] <;> rfl))⟩) (fun _ => trivial) ?_
  dsimp only [endP, seqP]
  refine ⟨⟨by decide, by decide⟩, fun n n1 n2 => ⟨⟨by omega, by omega⟩, by rw [rangeI_len, sizeLine_eq]; omega, ?_⟩⟩
  refine lcP_ind (fun rest (acc : List Pl) => acc.length + rest.length ≤ 3 ∧ ∀ p ∈ acc, OkP p) (fun m hm => ?_) (fun x r acc next hn hi => ?_) _ _ ⟨by rw [rangeI_len]; show 0 + _ ≤ 3; omega, fun _ h => nomatch h⟩
  case refine_2 =>
    dsimp only []
    rw [if_pos rfl]
    intro p hp
    refine hn _ ⟨?_, fun z hz => ?_⟩
    · have := hi.1
      rw [List.length_cons] at this
      rw [List.length_append, List.length_singleton]
      omega
    · rcases List.mem_append.mp hz with hz | hz
      · exact hi.2 z hz
      · rw [List.mem_singleton.mp hz]
        exact hp
  obtain ⟨m3, mo⟩ := hm
  have m3 : m.length ≤ 3 := by simpa using m3
  intro ml
  refine forP_ind (fun rest (s : List Tf) => ∃ pre : List Pl, pre ++ rest = m ∧ s = pre.map mkT) (fun s hs => ?_) (fun x r s next hx hi => ?_) _ _ ⟨[], rfl, rfl⟩
  case refine_2 =>
    obtain ⟨pre, e, es⟩ := hi
    have xm : x ∈ m := by rw [← e]; exact List.mem_append_right _ List.mem_cons_self
    have ox := mo x xm
    have fp : fP x = none := (fPL ox.1).trans ox.2
    have ll : x.x2.l.length ≤ 100 := ox.1.2.2.2
    have sl : s.length ≤ 3 := by
      rw [es, List.length_map]
      rw [← e, List.length_append] at m3
      omega
    have hd : (ixN (x.x2.l ++ [((9999 : Int), (7 : Int))]).length 0).isSome = true := ixN_ok (by decide) (by rw [List.length_append, List.length_singleton]; omega)
    have nx := hx (s ++ [mkT x]) ⟨pre ++ [x], by rw [List.append_assoc]; exact e, by rw [es, List.map_append]; rfl⟩
    have l1 : s.length < sizeLine := by rw [sizeLine_eq]; omega
    have l2 : x.x2.l.length < sizeLine := by rw [sizeLine_eq]; omega
    refine ⟨rfl, ⟨by decide, by decide⟩, fun q q1 q2 => ?_⟩
    by_cases c0 : q = 0
    · rw [if_pos (decide_eq_true c0), fp]
      refine ⟨rfl, ⟨ox.1, rfl⟩, l1, rfl, by omega, fun _ _ => ⟨trivial, trivial⟩, fun _ _ => ⟨trivial, trivial⟩, ?_⟩
      rw [if_neg (by rw [decide_eq_true rfl]; decide)]
      exact ⟨l2, hd, nx⟩
    · rw [if_neg (by simpa using c0), fp]
      refine ⟨by omega, ⟨ox.1, rfl⟩, l1, rfl, by omega, fun _ _ => ⟨trivial, trivial⟩, fun _ _ => ⟨trivial, trivial⟩, ?_⟩
      rw [if_neg (by rw [decide_eq_true rfl]; decide)]
      exact ⟨l2, hd, nx⟩
  obtain ⟨pre, e, es⟩ := hs
  rw [List.append_nil] at e
  rw [e] at es
  intro _
  refine ⟨ml, ?_⟩
  refine lcP_ind (fun rest (acc : List (List Int)) => (∀ x ∈ rest, x ∈ m) ∧ acc.length + rest.length = m.length ∧ ∀ us ∈ acc, ∀ u ∈ us, (0 : Int) ≤ u) (fun us hu => ?_) (fun x r acc next hn hi => ?_) _ _ ⟨fun _ h => h, by show 0 + _ = _; omega, fun _ h => nomatch h⟩
  case refine_2 =>
    dsimp only []
    rw [if_pos rfl]
    refine ⟨mo x (hi.1 x List.mem_cons_self), fun us hus => hn _ ⟨fun y hy => hi.1 y (List.mem_cons_of_mem _ hy), ?_, fun z hz => ?_⟩⟩
    · have := hi.2.1
      rw [List.length_cons] at this
      rw [List.length_append, List.length_singleton]
      omega
    · rcases List.mem_append.mp hz with hz | hz
      · exact hi.2.2 z hz
      · rw [List.mem_singleton.mp hz]
        exact hus
  obtain ⟨_, ul, uo⟩ := hu
  have ul : us.length = m.length := by simpa using ul
  refine ⟨⟨by decide, by decide⟩, fun a a1 a2 => ⟨⟨by decide, by decide⟩, fun b b1 b2 => ⟨.inl ⟨by omega, by omega⟩, ⟨by decide, by decide⟩, ?_⟩⟩⟩
  have neg : -1 - a * b < 0 := by have := Int.mul_nonneg a1 b1; omega
  refine forP_ind (fun _ _ => True) (fun _ _ => rfl) (fun x r s3 next hx _ => ?_) _ _ trivial
  intro _
  refine ⟨⟨by omega, by omega⟩, ?_⟩
  refine forP_ind (fun rest _ => ∀ k ∈ rest, ∃ j : Nat, j < m.length ∧ k = (j : Int)) (fun _ _ => hx _ trivial) (fun k rest s4 next2 hx2 hi => ?_) _ _ (fun k hk => by
    obtain ⟨j, h1, h2⟩ := rangeI_mem hk
    exact ⟨j, by omega, h2⟩)
  obtain ⟨j, hj, rfl⟩ := hi k List.mem_cons_self
  have nx := hx2 () fun z hz => hi z (List.mem_cons_of_mem _ hz)
  have om := mo _ (List.getElem_mem hj)
  refine ⟨mkT m[j], by rw [atI_nat (by rw [es, List.length_map]; exact hj)]; simp only [es, List.getElem_map], m[j], atI_nat hj, us[j]'(by omega), atI_nat (by omega), ⟨om, rfl, uo _ (List.getElem_mem _), neg⟩, ?_⟩
  rw [if_neg (by decide)]
  split
  · refine ⟨m[j], atI_nat hj, om.1, ?_⟩
    rw [if_neg (by decide)]
    exact nx
  · rw [if_neg (by decide)]
    exact nx
end
end K30

set_option Elab.async false
set_option linter.all false
set_option maxRecDepth 100000
set_option maxHeartbeats 0
set_option autoImplicit false
namespace Ty
open PySem PySem.Spec PyProof.Rows L2
/-- a law's end: the promise may speak of the world -/
theorem walk_ofW {l : PySem.W.OpenLaw} {n k : Nat} {q : Program} {loose : List Str} {XP : (Str → Option Value) → Heap → Prop} {YP : World → Heap → Prop} {d : DefRec} {x : Str}
    (hn : l.most = some n) (hn2 : n ≤ sizeLine) (hdf : d.params.defaults = []) (hr : Room k callerA)
    (F : ∀ (w : World) (mg : Str → Option Value) (fa : Addr) (h : Heap), YP w h → h.Ns mainGlobals mg → mg d.name = some (.ref fa) →
      ∃ (K : PySem.W.Frag) (fd : FuncData), K.In h ∧ (∀ (s : Shared) (u : Value), BindsTo s fd ⟨[u], []⟩ [(x, u)]) ∧ ∀ base : Heap, FnOk l.prog w K mg base (L2.CX l.prog w) k fa fd [x] (spL K n)) :
    PySem.W.WalkO q loose XP YP l.row.toRowW d [] (fun f vs => PySem.call f vs) := by
  refine Att.attach_call hn hdf fun w s₀ s₁ mg mb fa o pm cd doc a vs ns G Y ho hd hcd hmg hobj hints hlen hg => ?_
  obtain ⟨K, fd, KX, hb, hF⟩ := F w mg fa _ Y G.T.g hmg
  exact law_call KX G.T.g G.T.b G.T.builtins G.T.nolimit hg hobj hints (Nat.le_trans hlen hn2) hr (fun base _ _ => hF base) hb (fun H hO hS => ⟨a, ns, rfl, hS, hlen, hO, fun _ => rfl⟩) fun H e s' h => by
    obtain ⟨_, _, _, _, _, _, _, _, _, _, _, _, z⟩ := h
    exact z
end Ty
namespace K30
open PySem PySem.Spec PyProof.Rows L2 Ty
theorem facts {w : World} {K : Fg} {h : Heap} {mg : Str → Option Value} {f : Addr} (X : K.In h) (G : h.Ns mainGlobals mg) (hfa : mg ("law" : Str) = some (.ref f)) (c : SaysS fa fn fs pw.main.file exB K) :
    ∃ fd : FuncData, (∀ (s : Shared) (v : Value), BindsTo s fd ⟨[v], []⟩ [("script", v)]) ∧ ∀ base : Heap, FnOk pw w K mg base (L2.CX pw w) 11 f fd ["script"] (spL K 63) := by
  have T : Txt K mg := Txt.of X G c
  obtain ⟨fd, F, ok⟩ := ok_law (w := w) T
  have e := hfa.symm.trans T.g_law
  cases e
  have b := FunD.bindsA (ps := ["script"]) F fun _ _ _ _ _ _ us hl => match us, hl with | [_], _ => rfl
  exact ⟨fd, fun s v => b s [v] rfl, ok⟩
end K30
open PySem PySem.W PySem.Calls PyProof.Rows
theorem PySem.Challenge.cw_valvewise_k30_tariffs_holds : PySem.Challenge.rw_valvewise_k30_tariffs.Holds := by
  w_on; o_law
  refine HandSHeadRun.head_any (r := OpenLaw.row PySem.Challenge.rw_valvewise_k30_tariffs) (q := view (OpenLaw.row PySem.Challenge.rw_valvewise_k30_tariffs).prog [32]) (H := K30.hk) (ob := K30.ob) (M := 4000) (loose := K30.loose) (d := HandSHeadRun.topDef (OpenLaw.row PySem.Challenge.rw_valvewise_k30_tariffs).prog 32) (kwd := []) K30.ob_eq
    (by kernel_rfl) (fun s => by kernel_rfl) K30.run (by kernel_rfl) (by kernel_rfl) (by kernel_rfl) (by rfl) (by first | assumption | decide +kernel) (by decide +kernel) ⟨rfl, rfl, rfl, rfl, rfl, by decide +kernel⟩ ?hw ?hc
  case hw => w_witness2
  case hc =>
    refine Ty.walk_ofW (l := PySem.Challenge.rw_valvewise_k30_tariffs) (n := 63) (k := 11) (x := "script") rfl (by decide) (by kernel_rfl) ⟨rfl, by decide, by decide⟩ ?F
    intro w mg fa h Y G hmg0
    obtain ⟨K, KX, c⟩ := Y
    have hmg : mg ("law" : PySem.Str) = some (.ref fa) := by
      have e : (HandSHeadRun.topDef (OpenLaw.row PySem.Challenge.rw_valvewise_k30_tariffs).prog 32).name = ("law" : PySem.Str) := by kernel_rfl
      rw [← e]
      exact hmg0
    obtain ⟨fd, hb, hF⟩ := K30.facts (w := w) KX G hmg c
    exact ⟨K, fd, KX, hb, hF⟩

