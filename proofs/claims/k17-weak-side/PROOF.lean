import PyProof.Rows.All
import Wide.All
import OpenK.AllK
import Wide.FinOn
import HandS.ForMost
import HandS.ForExc
import HandS.Defaults
import HandS.Walk
import HandS.CallSlots
import HandS.HeadHook2
import HandS.More
import HandS.IsInst
import HandS.TupAny
import PyProof.ListMulRight
import KE.KOpsOwn
import HandS.FStr
import HandS.Small
import HandS.Sort
import PyProof.ListRange
import PyProof.TwoTypes
import HandS.Dict
import HandS.ForDict
import KE.DataMinMax
import HandS.Iter
import KE.KSuper
import KE.KExcSuper
import KE.KExcIs
import KE.KExcMake
import HandS.Nested
import HandS.ClsMeth
import HandS.Exc
import HandS.ExcInit
import HandS.ExcField
import HandS.TryMany
import HandS.HotCalls
import HandS.Head0
import HandS.Head1
import HandS.Head2
import HandS.HeadHook4
import HandS.HeadEnd
import HandS.ExcIs
import HandS.Star
import KE.KTryMore
import HandS.TupLe
import HandS.Strs
import HandS.DictComp
import HandS.Deep
import HandS.HeadHook3
import HandS.MethStar
import PySem.Challenge.RW_valvewise_k17_weak_side
import KE.KStateDown
import HandS.Ends
set_option Elab.async false
set_option linter.all false
set_option maxRecDepth 100000
set_option maxHeartbeats 4000000
set_option autoImplicit false
/-! Ty, part A: worlds, representations, judgements of expressions and statements by predicate transformers -/
namespace Ty
open PySem PySem.Spec L2

abbrev Fg := PySem.W.Frag
/-- G is a part of H -/
def Ex (G H : Hp) : Prop := ∀ a o, G a = some o → H a = some o
theorem Ex.refl (G : Hp) : Ex G G := fun _ _ h => h
theorem Ex.trans {G H J : Hp} (a : Ex G H) (b : Ex H J) : Ex G J := fun x o h => b x o (a x o h)
theorem Ex.new {H : Hp} {p : Addr} {o : HO} (h : H p = none) : Ex H (upd H p o) := fun a u e => by
  rw [upd_ne (ne_of_none e h)]
  exact e
theorem Ex.rd {G H : Hp} {a : Addr} {u : HO} (e : Ex G H) (h : Rd G a u) : Rd H a u := by
  rcases h with h | ⟨o, h⟩
  · exact Or.inl (e a _ h)
  · exact Or.inr ⟨o, e a _ h⟩
theorem Ex.sl {K : Fg} {G H : Hp} {a : Addr} {xs : List V} (e : Ex G H) (h : SqL K G a xs) : SqL K H a xs := by
  rcases h with h | h
  · exact Or.inl (e.rd h)
  · exact Or.inr h
theorem Ex.st {K : Fg} {G H : Hp} {a : Addr} {xs : List V} (e : Ex G H) (h : SqT K G a xs) : SqT K H a xs := by
  rcases h with h | h
  · exact Or.inl (e.rd h)
  · exact Or.inr h

/-! ### what a value stands for -/
class Rp (α : Type) where
  rp : Fg → Hp → V → α → Prop
  mono : ∀ {K : Fg} {G G' : Hp} {v : V} {m : α}, Ex G G' → rp K G v m → rp K G' v m
abbrev rp {α : Type} [i : Rp α] (K : Fg) (G : Hp) (v : V) (m : α) : Prop := i.rp K G v m

instance rpI : Rp Int := ⟨fun _ _ v m => v = .int m, fun _ h => h⟩
instance rpB : Rp Bool := ⟨fun _ _ v m => v = .bl m, fun _ h => h⟩
instance rpS : Rp Str := ⟨fun _ _ v m => v = .str m, fun _ h => h⟩
instance rpN : Rp Unit := ⟨fun _ _ v _ => v = .non, fun _ h => h⟩
abbrev RpAll {α : Type} (i : Rp α) (K : Fg) (G : Hp) : List V → List α → Prop := Paired fun v m => i.rp K G v m
theorem RpAll.mono {α : Type} {i : Rp α} {K : Fg} {G G' : Hp} {vs : List V} {ms : List α} (e : Ex G G') (h : RpAll i K G vs ms) : RpAll i K G' vs ms := Paired.mapP h fun _ _ q => i.mono e q
theorem RpAll.get {α : Type} {i : Rp α} {K : Fg} {G : Hp} : ∀ {vs : List V} {ms : List α} {j : Nat} {m : α}, RpAll i K G vs ms → ms[j]? = some m → ∃ v, vs[j]? = some v ∧ i.rp K G v m
  | _, _, j, m, .nil, e => by simp at e
  | _, _, 0, m, .cons h _, e => by
    simp at e
    subst e
    exact ⟨_, rfl, h⟩
  | _, _, j + 1, m, .cons _ t, e => by
    obtain ⟨v, h1, h2⟩ := RpAll.get (j := j) t (by simpa using e)
    exact ⟨v, by simpa using h1, h2⟩
theorem RpAll.getV {α : Type} {i : Rp α} {K : Fg} {G : Hp} {vs : List V} {ms : List α} {j : Nat} {v : V} (h : RpAll i K G vs ms) (e : vs[j]? = some v) : ∃ m, ms[j]? = some m ∧ i.rp K G v m := by
  have hl := h.length
  have hj : j < vs.length := (List.getElem?_eq_some_iff.mp e).1
  have e2 : ms[j]? = some (ms[j]'(by omega)) := List.getElem?_eq_getElem _
  obtain ⟨v', h1, h2⟩ := h.get e2
  rw [e] at h1
  cases h1
  exact ⟨_, e2, h2⟩
/-- a Python list -/
instance rpL {α : Type} [i : Rp α] : Rp (List α) := ⟨fun K G v ms => ∃ a vs, v = .ref a ∧ G a = some (.lst vs) ∧ RpAll i K G vs ms ∧ vs.length ≤ sizeLine, fun e h => by
  obtain ⟨a, vs, h1, h2, h3, h4⟩ := h
  exact ⟨a, vs, h1, e _ _ h2, h3.mono e, h4⟩⟩
/-- a Python tuple of any length -/
structure Tu (α : Type) where
  l : List α
instance rpT {α : Type} [i : Rp α] : Rp (Tu α) := ⟨fun K G v ms => ∃ a vs, v = .ref a ∧ SqT K G a vs ∧ RpAll i K G vs ms.l ∧ vs.length ≤ sizeLine, fun e h => by
  obtain ⟨a, vs, h1, h2, h3, h4⟩ := h
  exact ⟨a, vs, h1, e.st h2, h3.mono e, h4⟩⟩
/-- a pair -/
instance rp2 {α β : Type} [i : Rp α] [j : Rp β] : Rp (α × β) := ⟨fun K G v m => ∃ a x y, v = .ref a ∧ SqT K G a [x, y] ∧ i.rp K G x m.1 ∧ j.rp K G y m.2, fun e h => by
  obtain ⟨a, x, y, h1, h2, h3, h4⟩ := h
  exact ⟨a, x, y, h1, e.st h2, i.mono e h3, j.mono e h4⟩⟩
/-- what may be read of a list that the program's text wrote is told by SqL -/
structure LiK (α : Type) where
  l : List α

/-! ### exceptions -/
structure Exn where
  cls : Str
  fs : List (Str × PyData)
def XRep (K : Fg) (G H : Hp) (cls : Value) (d : Option Addr) (e : Exn) : Prop :=
  cls = .ref (He.ga K e.cls) ∧ ∃ (a : Addr) (fs : List (Str × V)), d = some a ∧ G a = some (.xd fs) ∧ ∀ f x, e.fs.lookup f = some x → ∃ v, fs.lookup f = some v ∧ Dp K G v x

/-! ### worlds: G what is known for good, H the heap; a resource: the objects that may change -/
structure Rs where
  S : Hp → Addr → Prop
  I : Hp → Prop
  loc : ∀ {H H' : Hp}, I H → (∀ a, S H a → H' a = H a) → I H' ∧ ∀ a, S H' a ↔ S H a
  trk : ∀ {H : Hp} {a : Addr}, I H → S H a → H a ≠ none
def rs0 : Rs := ⟨fun _ _ => False, fun _ => True, fun _ _ => ⟨trivial, fun _ => Iff.rfl⟩, fun _ h => h.elim⟩
structure Wd (rs : Rs) (G H : Hp) : Prop where
  s : Ex G H
  i : rs.I H
  n : ∀ a, rs.S H a → G a = none
structure Gr (rs : Rs) (G H G' H' : Hp) : Prop where
  g : Ex G G'
  h : ∀ a o, ¬ rs.S H a → H a = some o → H' a = some o
  t : ∀ a, H a ≠ none → H' a ≠ none
  n : ∀ a, H a ≠ none → G a = none → G' a = none
  f : ∀ a, rs.S H' a → rs.S H a ∨ H a = none
  w : Wd rs G' H'
theorem Gr.refl {rs : Rs} {G H : Hp} (w : Wd rs G H) : Gr rs G H G H := ⟨Ex.refl _, fun _ _ _ h => h, fun _ h => h, fun _ _ h => h, fun _ h => .inl h, w⟩
theorem Gr.trans {rs : Rs} {G H G1 H1 G2 H2 : Hp} (a : Gr rs G H G1 H1) (b : Gr rs G1 H1 G2 H2) : Gr rs G H G2 H2 := by
  have notS : ∀ x o, ¬ rs.S H x → H x = some o → ¬ rs.S H1 x := fun x o hs hx q => by
    rcases a.f x q with z | z
    · exact hs z
    · rw [z] at hx
      cases hx
  refine ⟨a.g.trans b.g, fun x o hs hx => b.h x o (notS x o hs hx) (a.h x o hs hx), fun x hx => b.t x (a.t x hx), fun x hx hg => b.n x (a.t x hx) (a.n x hx hg), fun x hx => ?_, b.w⟩
  rcases b.f x hx with z | z
  · exact a.f x z
  · by_cases q : H x = none
    · exact .inr q
    · exact absurd z (a.t x q)
theorem some_ne {H : Hp} {a : Addr} {o : HO} (h : H a = some o) : H a ≠ none := by rw [h]; exact fun q => by cases q
/-- pure growth -/
theorem gr_up {rs : Rs} {G H G' H' : Hp} (w : Wd rs G H) (g : Ex G G') (h : Ex H H') (s : Ex G' H') (n : ∀ a, H a ≠ none → G a = none → G' a = none) : Gr rs G H G' H' := by
  have hs : ∀ a, rs.S H a → H' a = H a := fun a ha => by
    cases e : H a with
    | none => exact absurd e (rs.trk w.i ha)
    | some o => exact h a o e
  obtain ⟨i', s'⟩ := rs.loc w.i hs
  refine ⟨g, fun a o _ e => h a o e, fun a e => ?_, n, fun a ha => .inl ((s' a).mp ha), ⟨s, i', fun a ha => ?_⟩⟩
  · cases q : H a with
    | none => exact absurd q e
    | some o => exact some_ne (h a o q)
  · exact n a (rs.trk w.i ((s' a).mp ha)) (w.n a ((s' a).mp ha))
/-- a new object, known for good -/
theorem gr_new {rs : Rs} {G H : Hp} {p : Addr} {o : HO} (w : Wd rs G H) (hp : H p = none) : Gr rs G H (upd G p o) (upd H p o) := by
  have gp : G p = none := by
    cases e : G p with
    | none => rfl
    | some u =>
      have := w.s p u e
      rw [hp] at this
      cases this
  refine gr_up w (Ex.new gp) (Ex.new hp) (fun a u e => ?_) fun a ha hg => ?_
  · by_cases q : a = p
    · subst q
      rw [upd_same] at e ⊢
      exact e
    · rw [upd_ne q] at e ⊢
      exact w.s a u e
  · have q : a ≠ p := fun z => ha (z ▸ hp)
    rw [upd_ne q]
    exact hg
/-- a new object that may change yet -/
theorem gr_newH {rs : Rs} {G H : Hp} {p : Addr} {o : HO} (w : Wd rs G H) (hp : H p = none) : Gr rs G H G (upd H p o) :=
  gr_up w (Ex.refl _) (Ex.new hp) (w.s.trans (Ex.new hp)) fun _ _ h => h
/-- an own object is changed -/
theorem gr_mut {rs : Rs} {G0 H0 G H : Hp} {l : Addr} {o : HO} (g : Gr rs G0 H0 G H) (h0 : H0 l = none) (hg : G l = none) (hs : ¬ rs.S H l) (hl : H l ≠ none) : Gr rs G0 H0 G (upd H l o) := by
  have e : ∀ a, rs.S H a → upd H l o a = H a := fun a ha => upd_ne fun z => hs (z ▸ ha)
  obtain ⟨i', s'⟩ := rs.loc g.w.i e
  refine ⟨g.g, fun a u ha q => ?_, fun a q => ?_, g.n, fun a ha => g.f a ((s' a).mp ha), ⟨fun a u q => ?_, i', fun a ha => g.w.n a ((s' a).mp ha)⟩⟩
  · rw [upd_ne (ne_of_none q h0)]
    exact g.h a u ha q
  · by_cases z : a = l
    · rw [z, upd_same]
      exact fun q => by cases q
    · rw [upd_ne z]
      exact g.t a q
  · rw [upd_ne (ne_of_none q hg)]
    exact g.w.s a u q
/-- from no resource to any -/
theorem Gr.lift {rs : Rs} {G H G' H' : Hp} (w : Wd rs G H) (g : Gr rs0 G H G' H') : Gr rs G H G' H' :=
  gr_up w g.g (fun a o e => g.h a o (fun z => z) e) g.w.s g.n
theorem Wd.to0 {rs : Rs} {G H : Hp} (w : Wd rs G H) : Wd rs0 G H := ⟨w.s, trivial, fun _ h => h.elim⟩

/-! ### slots -/
inductive Sl : Type 1 where
  | no
  | val {α : Type} (i : Rp α) (m : α)
  | ml {α : Type} (i : Rp α) (xs : List α)
  | md {α : Type} (i : Rp α) (kvs : List (Key × α))
  | oi (l C : Addr) (fs : List (Str × (Fg → Hp → V → Prop)))
  | rf (a : Addr)
def Sl.own : Sl → Bool
  | .ml _ _ => true
  | .md _ _ => true
  | .oi _ _ _ => true
  | _ => false
/-- a dict's pairs -/
abbrev KvAll {α : Type} (i : Rp α) (K : Fg) (G : Hp) : List (Key × V) → List (Key × α) → Prop := Paired fun p q => p.1 = q.1 ∧ i.rp K G p.2 q.2
theorem KvAll.mono {α : Type} {i : Rp α} {K : Fg} {G G' : Hp} {vs : List (Key × V)} {ms : List (Key × α)} (e : Ex G G') (h : KvAll i K G vs ms) : KvAll i K G' vs ms := Paired.mapP h fun _ _ q => ⟨q.1, i.mono e q.2⟩
/-- an instance's fields: names in order, what is known of each -/
inductive FlAll (K : Fg) (G : Hp) : List (Str × V) → List (Str × (Fg → Hp → V → Prop)) → Prop
  | nil : FlAll K G [] []
  | cons {f : Str} {v : V} {p : Fg → Hp → V → Prop} {vs : List (Str × V)} {ps : List (Str × (Fg → Hp → V → Prop))} : (∀ G', Ex G G' → p K G' v) → FlAll K G vs ps → FlAll K G ((f, v) :: vs) ((f, p) :: ps)
theorem FlAll.mono {K : Fg} {G G' : Hp} {vs : List (Str × V)} {ps : List (Str × (Fg → Hp → V → Prop))} (e : Ex G G') (h : FlAll K G vs ps) : FlAll K G' vs ps := by
  induction h with
  | nil => exact .nil
  | cons h _ ih => exact .cons (fun G2 e2 => h G2 (e.trans e2)) ih
def SlOk (K : Fg) (rs : Rs) (H0 G H : Hp) (s : Option (Option V)) : Sl → Prop
  | .no => True
  | .val i m => ∃ v, s = some (some v) ∧ i.rp K G v m
  | .ml i xs => ∃ l vs, s = some (some (.ref l)) ∧ H l = some (.lst vs) ∧ RpAll i K G vs xs ∧ H0 l = none ∧ G l = none ∧ ¬ rs.S H l
  | .md i kvs => ∃ l vs, s = some (some (.ref l)) ∧ H l = some (.dK vs) ∧ KvAll i K G vs kvs ∧ H0 l = none ∧ G l = none ∧ ¬ rs.S H l
  | .oi l C fs => ∃ dx vs, s = some (some (.ref l)) ∧ H l = some (.ins C dx vs) ∧ FlAll K G vs fs ∧ H0 l = none ∧ G l = none ∧ ¬ rs.S H l ∧ H dx = some (.own l) ∧ H0 dx = none ∧ G dx = none ∧ ¬ rs.S H dx
  | .rf a => s = some (some (.ref a))
structure En (K : Fg) (rs : Rs) (H0 G H : Hp) (σ : L2.St) (ρ : List Sl) : Prop where
  len : σ.length = ρ.length
  ok : ∀ (i : Nat) (x : Sl), ρ[i]? = some x → SlOk K rs H0 G H σ[i]? x
  sep : ∀ (i j : Nat) (x y : Sl) (l : Addr), i ≠ j → ρ[i]? = some x → ρ[j]? = some y → x.own = true → y.own = true → σ[i]? = some (some (.ref l)) → σ[j]? = some (some (.ref l)) → False
theorem SlOk.up {K : Fg} {rs : Rs} {H0 G H G' H' : Hp} {s : Option (Option V)} {x : Sl} (g : Gr rs G H G' H') (h : SlOk K rs H0 G H s x) : SlOk K rs H0 G' H' s x := by
  cases x with
  | no => trivial
  | val i m =>
    obtain ⟨v, h1, h2⟩ := h
    exact ⟨v, h1, i.mono g.g h2⟩
  | ml i xs =>
    obtain ⟨l, vs, h1, h2, h3, h4, h5, h6⟩ := h
    refine ⟨l, vs, h1, g.h l _ h6 h2, h3.mono g.g, h4, g.n l (some_ne h2) h5, fun z => ?_⟩
    rcases g.f l z with q | q
    · exact h6 q
    · rw [q] at h2
      cases h2
  | md i kvs =>
    obtain ⟨l, vs, h1, h2, h3, h4, h5, h6⟩ := h
    refine ⟨l, vs, h1, g.h l _ h6 h2, h3.mono g.g, h4, g.n l (some_ne h2) h5, fun z => ?_⟩
    rcases g.f l z with q | q
    · exact h6 q
    · rw [q] at h2
      cases h2
  | oi l C fs =>
    obtain ⟨dx, vs, h1, h2, h3, h4, h5, h6, h7, h8, h9, h10⟩ := h
    refine ⟨dx, vs, h1, g.h l _ h6 h2, h3.mono g.g, h4, g.n l (some_ne h2) h5, fun z => ?_, g.h dx _ h10 h7, h8, g.n dx (some_ne h7) h9, fun z => ?_⟩
    · rcases g.f l z with q | q
      · exact h6 q
      · rw [q] at h2
        cases h2
    · rcases g.f dx z with q | q
      · exact h10 q
      · rw [q] at h7
        cases h7
  | rf a => exact h
theorem En.up {K : Fg} {rs : Rs} {H0 G H G' H' : Hp} {σ : L2.St} {ρ : List Sl} (g : Gr rs G H G' H') (h : En K rs H0 G H σ ρ) : En K rs H0 G' H' σ ρ :=
  ⟨h.len, fun i x e => (h.ok i x e).up g, h.sep⟩
theorem En.val {K : Fg} {rs : Rs} {H0 G H : Hp} {σ : L2.St} {ρ : List Sl} {j : Nat} {α : Type} {i : Rp α} {m : α} (h : En K rs H0 G H σ ρ) (e : ρ[j]? = some (.val i m)) : ∃ v, σ[j]? = some (some v) ∧ i.rp K G v m := h.ok j _ e
theorem get_set.{u} {α : Type u} {l : List α} {i j : Nat} {a b : α} (h : (l.set i a)[j]? = some b) : (i = j ∧ b = a ∧ i < l.length) ∨ (i ≠ j ∧ l[j]? = some b) := by
  by_cases q : i = j
  · subst q
    by_cases z : i < l.length
    · rw [List.getElem?_set_self z] at h
      exact .inl ⟨rfl, (Option.some.inj h).symm, z⟩
    · rw [List.getElem?_eq_none (by simpa using z)] at h
      cases h
  · rw [List.getElem?_set_ne q] at h
    exact .inr ⟨q, h⟩
/-- a slot is stored (not an own object) -/
theorem En.set {K : Fg} {rs : Rs} {H0 G H : Hp} {σ : L2.St} {ρ : List Sl} {j : Nat} {v : V} {x : Sl} (h : En K rs H0 G H σ ρ) (hx : SlOk K rs H0 G H (some (some v)) x) (hn : x.own = false) : En K rs H0 G H (σ.set j (some v)) (ρ.set j x) := by
  refine ⟨by simp [h.len], fun i y e => ?_, fun i k y z l ne e1 e2 o1 o2 s1 s2 => ?_⟩
  · rcases get_set e with ⟨rfl, rfl, z⟩ | ⟨q, e⟩
    · rw [List.getElem?_set_self (by rw [h.len]; exact z)]
      exact hx
    · rw [List.getElem?_set_ne q]
      exact h.ok i y e
  · rcases get_set e1 with ⟨_, rfl, _⟩ | ⟨q1, e1⟩
    · rw [hn] at o1; cases o1
    rcases get_set e2 with ⟨_, rfl, _⟩ | ⟨q2, e2⟩
    · rw [hn] at o2; cases o2
    rw [List.getElem?_set_ne q1] at s1
    rw [List.getElem?_set_ne q2] at s2
    exact h.sep i k y z l ne e1 e2 o1 o2 s1 s2
/-- less is known -/
inductive SlLe : Sl → Sl → Prop
  | refl (x : Sl) : SlLe x x
  | no (x : Sl) : SlLe x .no
inductive EnLe : List Sl → List Sl → Prop
  | nil : EnLe [] []
  | cons {x y : Sl} {r s : List Sl} : SlLe x y → EnLe r s → EnLe (x :: r) (y :: s)
theorem EnLe.len : ∀ {r s : List Sl}, EnLe r s → r.length = s.length
  | _, _, .nil => rfl
  | _, _, .cons _ t => congrArg Nat.succ t.len
theorem EnLe.get : ∀ {r s : List Sl} {i : Nat} {y : Sl}, EnLe r s → s[i]? = some y → ∃ x, r[i]? = some x ∧ SlLe x y
  | _, _, i, y, .nil, e => by simp at e
  | _, _, 0, y, .cons h _, e => by
    simp at e
    subst e
    exact ⟨_, rfl, h⟩
  | _, _, i + 1, y, .cons _ t, e => by
    obtain ⟨x, h1, h2⟩ := EnLe.get (i := i) t (by simpa using e)
    exact ⟨x, by simpa using h1, h2⟩
theorem EnLe.rfl' : ∀ (r : List Sl), EnLe r r
  | [] => .nil
  | x :: r => .cons (.refl x) (EnLe.rfl' r)
theorem En.le {K : Fg} {rs : Rs} {H0 G H : Hp} {σ : L2.St} {ρ ρ' : List Sl} (h : En K rs H0 G H σ ρ) (e : EnLe ρ ρ') : En K rs H0 G H σ ρ' := by
  refine ⟨h.len.trans e.len, fun i y q => ?_, fun i k y z l ne e1 e2 o1 o2 s1 s2 => ?_⟩
  · obtain ⟨x, h1, h2⟩ := e.get q
    cases h2 with
    | refl => exact h.ok i _ h1
    | no => trivial
  · obtain ⟨x1, h1, h2⟩ := e.get e1
    obtain ⟨x2, h3, h4⟩ := e.get e2
    cases h2 with
    | no => cases o1
    | refl => cases h4 with
      | no => cases o2
      | refl => exact h.sep i k _ _ l ne h1 h3 o1 o2 s1 s2

/-! ### the context, the judgements -/
structure Cn where
  rs : Rs
  G0 : Hp
  H0 : Hp
  wsh : Value → Option Addr → L2.St → Hp → Prop
abbrev Pt (α : Type) := (α → Prop) → (Exn → Prop) → Prop
/-- what is wanted of an exception, from a world on -/
def XOk (X : Cx) (c : Cn) (G H : Hp) (σ : L2.St) (ep : Exn → Prop) : Prop := ∀ G' H' cls d e, Gr c.rs G H G' H' → XRep X.K G' H' cls d e → ep e → c.wsh cls d σ H'
theorem XOk.up {X : Cx} {c : Cn} {G H G' H' : Hp} {σ : L2.St} {ep : Exn → Prop} (h : XOk X c G H σ ep) (g : Gr c.rs G H G' H') : XOk X c G' H' σ ep := fun G2 H2 cls d e g2 => h G2 H2 cls d e (g.trans g2)
structure JE (X : Cx) (c : Cn) (e : Expr) (ρ : List Sl) {α : Type} (i : Rp α) (t : TE) (Φ : Pt α) : Prop where
  pe : PE X e t
  sem : ∀ post ep, Φ post ep → ∀ G H σ, Wd c.rs G H → En X.K c.rs c.H0 G H σ ρ → ∀ Q : VK, (∀ G' H' v m, Gr c.rs G H G' H' → i.rp X.K G' v m → post m → Q v H') → XOk X c G H σ ep → t σ H Q
structure JT (X : Cx) (c : Cn) (e : Expr) (ρ : List Sl) (t : TT) (Φ : Pt Bool) : Prop where
  pe : PT X e t
  sem : ∀ post ep, Φ post ep → ∀ G H σ, Wd c.rs G H → En X.K c.rs c.H0 G H σ ρ → ∀ Q : Bool → Hp → Prop, (∀ G' H' m, Gr c.rs G H G' H' → post m → Q m H') → XOk X c G H σ ep → t σ H Q
/-- and, or within a test -/
structure JW (X : Cx) (c : Cn) (e : Expr) (ρ : List Sl) (t : TT) (Φ : Pt Bool) : Prop where
  pe : PW X e t
  sem : ∀ post ep, Φ post ep → ∀ G H σ, Wd c.rs G H → En X.K c.rs c.H0 G H σ ρ → ∀ Q : Bool → Hp → Prop, (∀ G' H' m, Gr c.rs G H G' H' → post m → Q m H') → XOk X c G H σ ep → t σ H Q
/-- arguments as typed data -/
inductive ArgOk (K : Fg) (G : Hp) : V → Sl → Prop
  | val {α : Type} {i : Rp α} {m : α} {v : V} : i.rp K G v m → ArgOk K G v (.val i m)
  | rf {a : Addr} : ArgOk K G (.ref a) (.rf a)
theorem ArgOk.mono {K : Fg} {G G' : Hp} {v : V} {x : Sl} (e : Ex G G') (h : ArgOk K G v x) : ArgOk K G' v x := by
  cases h with
  | val h => exact .val (Rp.mono e h)
  | rf => exact .rf
inductive ArgsOk (K : Fg) (G : Hp) : List V → List Sl → Prop
  | nil : ArgsOk K G [] []
  | cons {v : V} {x : Sl} {vs : List V} {xs : List Sl} : ArgOk K G v x → ArgsOk K G vs xs → ArgsOk K G (v :: vs) (x :: xs)
theorem ArgsOk.mono {K : Fg} {G G' : Hp} {vs : List V} {xs : List Sl} (e : Ex G G') (h : ArgsOk K G vs xs) : ArgsOk K G' vs xs := by
  induction h with
  | nil => exact .nil
  | cons h _ ih => exact .cons (h.mono e) ih
theorem ArgsOk.len {K : Fg} {G : Hp} {vs : List V} {xs : List Sl} (h : ArgsOk K G vs xs) : vs.length = xs.length := by
  induction h with
  | nil => rfl
  | cons _ _ ih => exact congrArg Nat.succ ih
abbrev aNil : Unit → List Sl := fun _ => []
abbrev aCons {α ι : Type} (i : Rp α) (as : ι → List Sl) : α × ι → List Sl := fun x => .val i x.1 :: as x.2
abbrev aRf {ι : Type} (a : Addr) (as : ι → List Sl) : ι → List Sl := fun x => .rf a :: as x
structure JA (X : Cx) (c : Cn) (es : List Expr) (ρ : List Sl) {ι : Type} (as : ι → List Sl) (t : TA) (Φ : Pt ι) : Prop where
  pe : PA X es t
  sem : ∀ post ep, Φ post ep → ∀ G H σ, Wd c.rs G H → En X.K c.rs c.H0 G H σ ρ → ∀ Q : List V → Hp → Prop, (∀ G' H' vs x, Gr c.rs G H G' H' → ArgsOk X.K G' vs (as x) → post x → Q vs H') → XOk X c G H σ ep → t σ H Q

inductive Out (S L β : Type) where
  | nx (s : S)
  | rt (b : β)
  | bk (l : L)
  | ct (l : L)
/-- Gb: what is known for good where the block begins -/
structure EndsOk (X : Cx) (c : Cn) (Gb : Hp) {S L β : Type} (i : Rp β) (out : S → List Sl) (lp : L → List Sl) (post : Out S L β → Prop) (D : Ends) : Prop where
  nx : ∀ G' H' σ' s, Gr c.rs c.G0 c.H0 G' H' → Ex Gb G' → En X.K c.rs c.H0 G' H' σ' (out s) → post (.nx s) → D.nx σ' H'
  rt : ∀ G' H' v b, Gr c.rs c.G0 c.H0 G' H' → Ex Gb G' → i.rp X.K G' v b → post (.rt b) → D.rt v H'
  bk : ∀ G' H' σ' l, Gr c.rs c.G0 c.H0 G' H' → Ex Gb G' → En X.K c.rs c.H0 G' H' σ' (lp l) → post (.bk l) → D.bk σ' H'
  ct : ∀ G' H' σ' l, Gr c.rs c.G0 c.H0 G' H' → Ex Gb G' → En X.K c.rs c.H0 G' H' σ' (lp l) → post (.ct l) → D.ct σ' H'
theorem EndsOk.up {X : Cx} {c : Cn} {Gb G1 : Hp} {S L β : Type} {i : Rp β} {out : S → List Sl} {lp : L → List Sl} {post : Out S L β → Prop} {D : Ends} (h : EndsOk X c Gb i out lp post D) (e : Ex Gb G1) : EndsOk X c G1 i out lp post D :=
  ⟨fun G' H' σ' s g x => h.nx G' H' σ' s g (e.trans x), fun G' H' v b g x => h.rt G' H' v b g (e.trans x), fun G' H' σ' s g x => h.bk G' H' σ' s g (e.trans x), fun G' H' σ' s g x => h.ct G' H' σ' s g (e.trans x)⟩
/-- .. from the entry on, whatever the slots -/
def XOkS (X : Cx) (c : Cn) (ep : Exn → Prop) : Prop := ∀ G' H' σ' cls d e, Gr c.rs c.G0 c.H0 G' H' → XRep X.K G' H' cls d e → ep e → c.wsh cls d σ' H'
theorem XOkS.at {X : Cx} {c : Cn} {ep : Exn → Prop} (h : XOkS X c ep) {G H : Hp} {σ : L2.St} (g : Gr c.rs c.G0 c.H0 G H) : XOk X c G H σ ep := fun G' H' cls d e g' => h G' H' σ cls d e (g.trans g')
structure JB (X : Cx) (c : Cn) (ss : List Stmt) (ρ : List Sl) {S L β : Type} (out : S → List Sl) (lp : L → List Sl) (i : Rp β) (t : TS) (Φ : Pt (Out S L β)) : Prop where
  pe : PSs X ss t
  sem : ∀ post ep, Φ post ep → ∀ G H σ, Gr c.rs c.G0 c.H0 G H → En X.K c.rs c.H0 G H σ ρ → ∀ D : Ends, EndsOk X c G i out lp post D → XOkS X c ep → t D σ H
end Ty

set_option Elab.async false
set_option linter.all false
set_option maxRecDepth 100000
set_option maxHeartbeats 4000000
set_option autoImplicit false
/-! Ty, part B: expressions -/
namespace Ty
open PySem PySem.Spec L2

/-! ### operators by values -/
structure OpW (X : Cx) (F : Value → Value → Sem Value) {α β γ : Type} (iα : Rp α) (iβ : Rp β) (iγ : Rp γ) (r : R2) (Φ : α → β → Pt γ) : Prop where
  pe : OpR X F r
  sem : ∀ (rs : Rs) (G H : Hp) (x y : V) (a : α) (b : β) (post : γ → Prop) (ep : Exn → Prop) (Q : VK), Wd rs G H → iα.rp X.K G x a → iβ.rp X.K G y b → Φ a b post ep →
    (∀ G' H' z m, Gr rs G H G' H' → iγ.rp X.K G' z m → post m → Q z H') → r x y H Q
structure UnW (X : Cx) (F : Value → Sem Value) {α γ : Type} (iα : Rp α) (iγ : Rp γ) (r : V → Hp → VK → Prop) (Φ : α → Pt γ) : Prop where
  pe : UnR X F r
  sem : ∀ (rs : Rs) (G H : Hp) (x : V) (a : α) (post : γ → Prop) (ep : Exn → Prop) (Q : VK), Wd rs G H → iα.rp X.K G x a → Φ a post ep →
    (∀ G' H' z m, Gr rs G H G' H' → iγ.rp X.K G' z m → post m → Q z H') → r x H Q
/-- a call of a built-in by values -/
structure CallW (X : Cx) (F : Value) {ι γ : Type} (as : ι → List Sl) (iγ : Rp γ) (r : List V → Hp → VK → Prop) (Φ : ι → Pt γ) : Prop where
  pe : CallR X F r
  sem : ∀ (rs : Rs) (G H : Hp) (vs : List V) (x : ι) (post : γ → Prop) (ep : Exn → Prop) (Q : VK), Wd rs G H → ArgsOk X.K G vs (as x) → Φ x post ep →
    (∀ G' H' z m, Gr rs G H G' H' → iγ.rp X.K G' z m → post m → Q z H') → r vs H Q
structure IxW (X : Cx) {α β γ : Type} (iα : Rp α) (iβ : Rp β) (iγ : Rp γ) (r : R2) (Φ : α → β → Pt γ) : Prop where
  pe : IxR X r
  sem : ∀ (rs : Rs) (G H : Hp) (x y : V) (a : α) (b : β) (post : γ → Prop) (ep : Exn → Prop) (Q : VK), Wd rs G H → iα.rp X.K G x a → iβ.rp X.K G y b → Φ a b post ep →
    (∀ G' H' z m, Gr rs G H G' H' → iγ.rp X.K G' z m → post m → Q z H') → r x y H Q
def TruW {α : Type} (i : Rp α) (f : α → Bool) : Prop := ∀ (K : Fg) (G H : Hp) (v : V) (m : α), Ex G H → i.rp K G v m → TruV K v H (f m)

abbrev rAddT : R2 := fun x y H Q => ∃ i j, x = .str i ∧ y = .str j ∧ i.length + j.length ≤ sizeLine ∧ Q (.str (i ++ j)) H
abbrev rAbs : List V → Hp → VK → Prop := fun xs H Q => ∃ i, xs = [.int i] ∧ Q (.int (if i < 0 then -i else i)) H
abbrev rMax2 : List V → Hp → VK → Prop := fun xs H Q => ∃ i j, xs = [.int i, .int j] ∧ Q (.int (if j > i then j else i)) H
abbrev rMin2 : List V → Hp → VK → Prop := fun xs H Q => ∃ i j, xs = [.int i, .int j] ∧ Q (.int (if j < i then j else i)) H
abbrev rInt1 : List V → Hp → VK → Prop := fun xs H Q => (∃ i, xs = [.int i] ∧ Q (.int i) H) ∨ ∃ k, xs = [.bl k] ∧ Q (.int (if k then 1 else 0)) H
abbrev rBool1 : List V → Hp → VK → Prop := fun xs H Q => (∃ i, xs = [.int i] ∧ Q (.bl (i != 0)) H) ∨ ∃ k, xs = [.bl k] ∧ Q (.bl k) H
abbrev rStrI : List V → Hp → VK → Prop := fun xs H Q => ∃ i, xs = [.int i] ∧ i.natAbs.log2 < 1920 ∧ Q (.str (toString i)) H
abbrev rLenQ (K : Fg) : List V → Hp → VK → Prop := fun xs H Q => ∃ p ys, xs = [.ref p] ∧ (SqL K H p ys ∨ SqT K H p ys) ∧ Q (.int ys.length) H
abbrev rLenV (K : Fg) : List V → Hp → VK → Prop := fun xs H Q => ∃ x n, xs = [x] ∧ LenV K x H n ∧ Q (.int n) H
theorem one1 {K : Fg} {G : Hp} {vs : List V} {α : Type} {i : Rp α} {m : α} (h : ArgsOk K G vs [.val i m]) : ∃ v, vs = [v] ∧ i.rp K G v m := by
  cases h with
  | cons h t =>
    cases t
    cases h with
    | val h => exact ⟨_, rfl, h⟩
theorem two2 {K : Fg} {G : Hp} {vs : List V} {α β : Type} {i : Rp α} {j : Rp β} {m : α} {n : β} (h : ArgsOk K G vs [.val i m, .val j n]) : ∃ v u, vs = [v, u] ∧ i.rp K G v m ∧ j.rp K G u n := by
  cases h with
  | cons h t =>
    obtain ⟨u, rfl, h2⟩ := one1 t
    cases h with
    | val h => exact ⟨_, u, rfl, h, h2⟩

section
variable {X : Cx}
theorem opw_I {F : Value → Value → Sem Value} {C : Int → Int → Prop} {g : Int → Int → Int} (h : OpR X F (rI C fun i j => .int (g i j))) : OpW X F rpI rpI rpI (rI C fun i j => .int (g i j)) (fun a b post _ => C a b ∧ post (g a b)) :=
  ⟨h, fun rs G H x y a b post ep Q w hx hy φ k => ⟨a, b, hx, hy, φ.1, k G H _ _ (Gr.refl w) rfl φ.2⟩⟩
theorem opw_I0 {F : Value → Value → Sem Value} {g : Int → Int → Int} (h : OpR X F (rI0 fun i j => .int (g i j))) : OpW X F rpI rpI rpI (rI0 fun i j => .int (g i j)) (fun a b post _ => post (g a b)) :=
  ⟨h, fun rs G H x y a b post ep Q w hx hy φ k => ⟨a, b, hx, hy, k G H _ _ (Gr.refl w) rfl φ⟩⟩
theorem opw_B0 {F : Value → Value → Sem Value} {g : Int → Int → Bool} (h : OpR X F (rI0 fun i j => .bl (g i j))) : OpW X F rpI rpI rpB (rI0 fun i j => .bl (g i j)) (fun a b post _ => post (g a b)) :=
  ⟨h, fun rs G H x y a b post ep Q w hx hy φ k => ⟨a, b, hx, hy, k G H _ _ (Gr.refl w) rfl φ⟩⟩
theorem add_I : OpW X (binaryOp .Add) rpI rpI rpI (rI0 fun i j => .int (i + j)) (fun a b post _ => post (a + b)) := opw_I0 op_add
theorem sub_I : OpW X (binaryOp .Sub) rpI rpI rpI (rI0 fun i j => .int (i - j)) (fun a b post _ => post (a - b)) := opw_I0 op_sub
theorem mul_I : OpW X (binaryOp .Mult) rpI rpI rpI (rI CMul fun i j => .int (i * j)) (fun a b post _ => CMul a b ∧ post (a * b)) := opw_I op_mul
theorem mod_I : OpW X (binaryOp .Mod) rpI rpI rpI (rI (fun _ j => 0 < j) fun i j => .int (i % j)) (fun a b post _ => 0 < b ∧ post (a % b)) := opw_I op_mod
theorem fdiv_I : OpW X (binaryOp .FloorDiv) rpI rpI rpI (rI CDiv fun i j => .int (i / j)) (fun a b post _ => CDiv a b ∧ post (a / b)) := opw_I op_fdiv
theorem pow_I : OpW X (binaryOp .Pow) rpI rpI rpI (rI CPow fun i j => .int (i ^ j.toNat)) (fun a b post _ => CPow a b ∧ post (a ^ b.toNat)) := opw_I op_pow
theorem add_S : OpW X (binaryOp .Add) rpS rpS rpS rAddT (fun a b post _ => a.length + b.length ≤ sizeLine ∧ post (a ++ b)) :=
  ⟨op_add_str, fun rs G H x y a b post ep Q w hx hy φ k => ⟨a, b, hx, hy, φ.1, k G H _ _ (Gr.refl w) rfl φ.2⟩⟩
/-- lists -/
theorem RpAll.append {α : Type} {i : Rp α} {K : Fg} {G : Hp} : ∀ {vs us : List V} {ms ns : List α}, RpAll i K G vs ms → RpAll i K G us ns → RpAll i K G (vs ++ us) (ms ++ ns)
  | _, _, _, _, .nil, h => h
  | _, _, _, _, .cons a t, h => .cons a (RpAll.append t h)
theorem add_L {α : Type} {i : Rp α} : OpW X (binaryOp .Add) (rpL (i := i)) (rpL (i := i)) (rpL (i := i)) rCat (fun a b post _ => a.length + b.length ≤ sizeLine ∧ post (a ++ b)) :=
  ⟨op_cat, fun rs G H x y a b post ep Q w hx hy φ k => by
    obtain ⟨l, vs, rfl, h1, h2, h3⟩ := hx
    obtain ⟨l', us, rfl, h4, h5, h6⟩ := hy
    have e1 := h2.length
    have e2 := h5.length
    have hz : vs.length + us.length ≤ sizeLine := by rw [e1, e2]; exact φ.1
    refine ⟨l, l', vs, us, rfl, rfl, w.s _ _ h1, w.s _ _ h4, hz, fun p hp => ?_⟩
    have g := gr_new (o := .lst (vs ++ us)) w hp
    exact k _ _ _ _ g ⟨p, vs ++ us, rfl, upd_same, (h2.append h5).mono g.g, by rw [List.length_append]; exact hz⟩ φ.2⟩
theorem lt_I : OpW X (compareOp .Lt) rpI rpI rpB (rI0 fun i j => .bl (decide (i < j))) (fun a b post _ => post (decide (a < b))) := opw_B0 op_lt
theorem le_I : OpW X (compareOp .LtE) rpI rpI rpB (rI0 fun i j => .bl (decide (i ≤ j))) (fun a b post _ => post (decide (a ≤ b))) := opw_B0 op_le
theorem gt_I : OpW X (compareOp .Gt) rpI rpI rpB (rI0 fun i j => .bl (decide (j < i))) (fun a b post _ => post (decide (b < a))) := opw_B0 op_gt
theorem ge_I : OpW X (compareOp .GtE) rpI rpI rpB (rI0 fun i j => .bl (decide (j ≤ i))) (fun a b post _ => post (decide (b ≤ a))) := opw_B0 op_ge
/-- values that are no objects: == by the value -/
class Sc (α : Type) [DecidableEq α] (i : Rp α) where
  out : ∀ {K : Fg} {G : Hp} {x y : V} {a b : α}, i.rp K G x a → i.rp K G y b → scal x y = true ∧ decide (x = y) = decide (a = b)
instance : Sc Int rpI := ⟨fun {K G x y a b} h1 h2 => by
  obtain rfl : x = .int a := h1
  obtain rfl : y = .int b := h2
  exact ⟨rfl, by simp⟩⟩
instance : Sc Bool rpB := ⟨fun {K G x y a b} h1 h2 => by
  obtain rfl : x = .bl a := h1
  obtain rfl : y = .bl b := h2
  exact ⟨rfl, by simp⟩⟩
instance : Sc Str rpS := ⟨fun {K G x y a b} h1 h2 => by
  obtain rfl : x = .str a := h1
  obtain rfl : y = .str b := h2
  exact ⟨rfl, by simp⟩⟩
theorem eq_V {α : Type} [DecidableEq α] {i : Rp α} [s : Sc α i] : OpW X (compareOp .Eq) i i rpB rEq (fun a b post _ => post (decide (a = b))) :=
  ⟨op_eq, fun rs G H x y a b post ep Q w hx hy φ k => by
    obtain ⟨h1, h2⟩ := s.out hx hy
    exact ⟨h1, k G H _ _ (Gr.refl w) (by rw [h2]; rfl) φ⟩⟩
theorem ne_V {α : Type} [DecidableEq α] {i : Rp α} [s : Sc α i] : OpW X (compareOp .NotEq) i i rpB rNe (fun a b post _ => post (!decide (a = b))) :=
  ⟨op_ne, fun rs G H x y a b post ep Q w hx hy φ k => by
    obtain ⟨h1, h2⟩ := s.out hx hy
    exact ⟨h1, k G H _ _ (Gr.refl w) (by rw [h2]; rfl) φ⟩⟩
theorem neg_I : UnW X (unaryOp .USub) rpI rpI (rU fun i => .int (-i)) (fun a post _ => post (-a)) :=
  ⟨un_neg, fun rs G H x a post ep Q w hx φ k => ⟨a, hx, k G H _ _ (Gr.refl w) rfl φ⟩⟩

/-! ### items -/
def atN {α : Type} (xs : List α) (i : Int) : Option α := if 0 ≤ i then xs[i.toNat]? else if 0 ≤ i + xs.length then xs[(i + xs.length).toNat]? else none
theorem RpAll.at {α : Type} {i : Rp α} {K : Fg} {G : Hp} {vs : List V} {ms : List α} {k : Int} {m : α} (h : RpAll i K G vs ms) (e : atI ms k = some m) : ∃ v, atI vs k = some v ∧ i.rp K G v m := by
  have hl := h.length
  unfold atI at e ⊢
  rw [hl]
  cases q : ixN ms.length k with
  | none =>
    rw [q] at e
    cases e
  | some j =>
    rw [q] at e
    obtain ⟨v, h1, h2⟩ := h.get (j := j) e
    exact ⟨v, h1, h2⟩
theorem ix_L {α : Type} {i : Rp α} : IxW X (rpL (i := i)) rpI i (rIxL X.K) (fun xs k post _ => ∃ m, atI xs k = some m ∧ post m) :=
  ⟨ix_list, fun rs G H x y a b post ep Q w hx hy φ k => by
    obtain ⟨l, vs, rfl, h1, h2, h3⟩ := hx
    obtain ⟨m, e, p⟩ := φ
    obtain ⟨v, e1, r⟩ := h2.at e
    exact ⟨l, vs, b, v, rfl, hy, SqL.of (w.s _ _ h1), e1, k G H _ _ (Gr.refl w) r p⟩⟩
theorem ix_T {α : Type} {i : Rp α} : IxW X (rpT (i := i)) rpI i (rIxT X.K) (fun xs k post _ => ∃ m, atI xs.l k = some m ∧ post m) :=
  ⟨ix_tup, fun rs G H x y a b post ep Q w hx hy φ k => by
    obtain ⟨l, vs, rfl, h1, h2, h3⟩ := hx
    obtain ⟨m, e, p⟩ := φ
    obtain ⟨v, e1, r⟩ := h2.at e
    exact ⟨l, vs, b, v, rfl, hy, w.s.st h1, e1, k G H _ _ (Gr.refl w) r p⟩⟩
theorem ix_S : IxW X rpS rpI rpS rIxS (fun z k post _ => z.length ≤ sizeLine ∧ ∃ m, atI z.cps.toList k = some m ∧ post ⟨#[m]⟩) :=
  ⟨ix_str, fun rs G H x y a b post ep Q w hx hy φ k => by
    obtain ⟨hz, m, e, p⟩ := φ
    exact ⟨a, b, m, hx, hy, hz, e, k G H _ _ (Gr.refl w) rfl p⟩⟩
/-- a pair's places -/
theorem ix_2a {α β : Type} {i : Rp α} {j : Rp β} : IxW X (rp2 (i := i) (j := j)) rpI i (rIxT X.K) (fun p k post _ => k = 0 ∧ post p.1) :=
  ⟨ix_tup, fun rs G H x y a b post ep Q w hx hy φ k => by
    obtain ⟨l, u, v, rfl, h1, h2, h3⟩ := hx
    obtain ⟨rfl, p⟩ := φ
    exact ⟨l, [u, v], 0, u, rfl, hy, w.s.st h1, rfl, k G H _ _ (Gr.refl w) h2 p⟩⟩
theorem ix_2b {α β : Type} {i : Rp α} {j : Rp β} : IxW X (rp2 (i := i) (j := j)) rpI j (rIxT X.K) (fun p k post _ => k = 1 ∧ post p.2) :=
  ⟨ix_tup, fun rs G H x y a b post ep Q w hx hy φ k => by
    obtain ⟨l, u, v, rfl, h1, h2, h3⟩ := hx
    obtain ⟨rfl, p⟩ := φ
    exact ⟨l, [u, v], 1, v, rfl, hy, w.s.st h1, rfl, k G H _ _ (Gr.refl w) h3 p⟩⟩
/-- a pair of two alike at an open place -/
theorem ix_2c {α : Type} {i : Rp α} : IxW X (rp2 (i := i) (j := i)) rpI i (rIxT X.K) (fun p k post _ => (k = 0 ∧ post p.1) ∨ (k = 1 ∧ post p.2)) :=
  ⟨ix_tup, fun rs G H x y a b post ep Q w hx hy φ k => by
    obtain ⟨l, u, v, rfl, h1, h2, h3⟩ := hx
    rcases φ with ⟨rfl, p⟩ | ⟨rfl, p⟩
    · exact ⟨l, [u, v], 0, u, rfl, hy, w.s.st h1, rfl, k G H _ _ (Gr.refl w) h2 p⟩
    · exact ⟨l, [u, v], 1, v, rfl, hy, w.s.st h1, rfl, k G H _ _ (Gr.refl w) h3 p⟩⟩

/-! ### built-ins -/
theorem abs_I : CallW X (.builtin "abs") (aCons rpI aNil) rpI rAbs (fun x post _ => post (if x.1 < 0 then -x.1 else x.1)) :=
  ⟨call_abs, fun rs G H vs x post ep Q w ha φ k => by
    obtain ⟨v, rfl, rfl⟩ := one1 ha
    exact ⟨x.1, rfl, k G H _ _ (Gr.refl w) rfl φ⟩⟩
theorem max_I (hc : X.calm = true) : CallW X (.builtin "max") (aCons rpI (aCons rpI aNil)) rpI rMax2 (fun x post _ => post (max x.1 x.2.1)) :=
  ⟨call_max2 hc, fun rs G H vs x post ep Q w ha φ k => by
    obtain ⟨v, u, rfl, rfl, rfl⟩ := two2 ha
    refine ⟨x.1, x.2.1, rfl, k G H _ _ (Gr.refl w) ?_ φ⟩
    show V.int _ = V.int _
    congr 1
    split <;> omega⟩
theorem min_I (hc : X.calm = true) : CallW X (.builtin "min") (aCons rpI (aCons rpI aNil)) rpI rMin2 (fun x post _ => post (min x.1 x.2.1)) :=
  ⟨call_min2 hc, fun rs G H vs x post ep Q w ha φ k => by
    obtain ⟨v, u, rfl, rfl, rfl⟩ := two2 ha
    refine ⟨x.1, x.2.1, rfl, k G H _ _ (Gr.refl w) ?_ φ⟩
    show V.int _ = V.int _
    congr 1
    split <;> omega⟩
theorem int_I : CallW X (.type "int") (aCons rpI aNil) rpI rInt1 (fun x post _ => post x.1) :=
  ⟨call_int1, fun rs G H vs x post ep Q w ha φ k => by
    obtain ⟨v, rfl, rfl⟩ := one1 ha
    exact .inl ⟨x.1, rfl, k G H _ _ (Gr.refl w) rfl φ⟩⟩
theorem int_B : CallW X (.type "int") (aCons rpB aNil) rpI rInt1 (fun x post _ => post (if x.1 then 1 else 0)) :=
  ⟨call_int1, fun rs G H vs x post ep Q w ha φ k => by
    obtain ⟨v, rfl, rfl⟩ := one1 ha
    exact .inr ⟨x.1, rfl, k G H _ _ (Gr.refl w) rfl φ⟩⟩
theorem bool_B : CallW X (.type "bool") (aCons rpB aNil) rpB rBool1 (fun x post _ => post x.1) :=
  ⟨call_bool1, fun rs G H vs x post ep Q w ha φ k => by
    obtain ⟨v, rfl, rfl⟩ := one1 ha
    exact .inr ⟨x.1, rfl, k G H _ _ (Gr.refl w) rfl φ⟩⟩
theorem str_I : CallW X (.type "str") (aCons rpI aNil) rpS rStrI (fun x post _ => x.1.natAbs.log2 < 1920 ∧ post (toString x.1)) :=
  ⟨call_str_int, fun rs G H vs x post ep Q w ha φ k => by
    obtain ⟨v, rfl, rfl⟩ := one1 ha
    exact ⟨x.1, rfl, φ.1, k G H _ _ (Gr.refl w) rfl φ.2⟩⟩
theorem len_L {α : Type} {i : Rp α} : CallW X (.builtin "len") (aCons (rpL (i := i)) aNil) rpI (rLenQ X.K) (fun x post _ => x.1.length ≤ sizeLine → post (x.1.length : Int)) :=
  ⟨call_len_seq, fun rs G H vs x post ep Q w ha φ k => by
    obtain ⟨v, rfl, l, us, rfl, h1, h2, h3⟩ := one1 ha
    have e := h2.length
    refine ⟨l, us, rfl, .inl (SqL.of (w.s _ _ h1)), k G H _ _ (Gr.refl w) (by show V.int _ = V.int _; rw [e]) (φ (by rw [← e]; exact h3))⟩⟩
theorem len_T {α : Type} {i : Rp α} : CallW X (.builtin "len") (aCons (rpT (i := i)) aNil) rpI (rLenQ X.K) (fun x post _ => x.1.l.length ≤ sizeLine → post (x.1.l.length : Int)) :=
  ⟨call_len_seq, fun rs G H vs x post ep Q w ha φ k => by
    obtain ⟨v, rfl, l, us, rfl, h1, h2, h3⟩ := one1 ha
    have e := h2.length
    refine ⟨l, us, rfl, .inr (w.s.st h1), k G H _ _ (Gr.refl w) (by show V.int _ = V.int _; rw [e]) (φ (by rw [← e]; exact h3))⟩⟩
theorem len_S : CallW X (.builtin "len") (aCons rpS aNil) rpI (rLenV X.K) (fun x post _ => x.1.length ≤ sizeLine ∧ post (x.1.length : Int)) :=
  ⟨call_len, fun rs G H vs x post ep Q w ha φ k => by
    obtain ⟨v, rfl, rfl⟩ := one1 ha
    exact ⟨_, x.1.length, rfl, ⟨φ.1, rfl⟩, k G H _ _ (Gr.refl w) rfl φ.2⟩⟩
end

/-! ### truth -/
theorem tru_B : TruW rpB id := fun K G H v m e h => by
  obtain rfl : v = .bl m := h
  rfl
theorem tru_I : TruW rpI (fun n => n != 0) := fun K G H v m e h => by
  obtain rfl : v = .int m := h
  rfl
theorem emp {α : Type} {i : Rp α} {K : Fg} {G : Hp} {vs : List V} {ms : List α} (h : RpAll i K G vs ms) : vs.isEmpty = ms.isEmpty := by cases h <;> rfl
theorem tru_L {α : Type} {i : Rp α} : TruW (rpL (i := i)) (fun xs => !xs.isEmpty) := fun K G H v m e h => by
  obtain ⟨l, us, rfl, h1, h2, h3⟩ := h
  exact .inl ⟨us, SqL.of (e _ _ h1), by rw [emp h2]⟩
theorem tru_T {α : Type} {i : Rp α} : TruW (rpT (i := i)) (fun xs => !xs.l.isEmpty) := fun K G H v m e h => by
  obtain ⟨l, us, rfl, h1, h2, h3⟩ := h
  exact .inr (.inl ⟨us, e.st h1, by rw [emp h2]⟩)

/-! ### expressions -/
section
variable {X : Cx} {c : Cn} {ρ : List Sl} {α β γ : Type} {iα : Rp α} {iβ : Rp β} {iγ : Rp γ} {a b : Expr} {pos : Pos} {Φa : Pt α} {Φb : Pt β} {ta tb td : TE} {r r' : R2}
theorem e_var {i : Rp α} {m : α} (j : Nat) {x : Str} (hρ : ρ[j]? = some (.val i m)) (hN : X.N[j]? = some x := by rfl) (hv : Vis X.env.scope x := by first | exact Or.inl rfl | exact Or.inr (Or.inl rfl) | exact Or.inr (Or.inr rfl))
    (hd : (x == ("__debug__" : Str)) = false := by decide) (hcd : (x == ("__classdict__" : Str)) = false := by decide) : JE X c (.Name x pos) ρ i (tVar j) (fun post _ => post m) :=
  ⟨pe_var hN hv hd hcd, fun post ep φ G H σ w E Q k hx => by
    obtain ⟨v, h1, h2⟩ := E.val hρ
    exact ⟨v, h1, k G H v m (Gr.refl w) h2 φ⟩⟩
theorem e_int {n : Int} {j : Nat} : JE X c (.Constant (.int n) j pos) ρ rpI (tC (.int n)) (fun post _ => post n) := ⟨pe_int, fun post ep φ G H σ w E Q k hx => k G H _ _ (Gr.refl w) rfl φ⟩
theorem e_bool {n : Bool} {j : Nat} : JE X c (.Constant (.bool n) j pos) ρ rpB (tC (.bl n)) (fun post _ => post n) := ⟨pe_bl, fun post ep φ G H σ w E Q k hx => k G H _ _ (Gr.refl w) rfl φ⟩
theorem e_str {n : Str} {j : Nat} : JE X c (.Constant (.str n) j pos) ρ rpS (tC (.str n)) (fun post _ => post n) := ⟨pe_str, fun post ep φ G H σ w E Q k hx => k G H _ _ (Gr.refl w) rfl φ⟩
theorem e_non {j : Nat} : JE X c (.Constant .none j pos) ρ rpN (tC .non) (fun post _ => post ()) := ⟨pe_non, fun post ep φ G H σ w E Q k hx => k G H _ _ (Gr.refl w) rfl φ⟩
/-- a constant of the module -/
theorem e_glob {i : Rp α} {m : α} {x : Str} {v : V} {u : Value} (hm : X.mg x = some u) (rv : RelV v u) (h : ∀ G, i.rp X.K G v m) (hg : Gl X x := by rfl) (hd : (x == ("__debug__" : Str)) = false := by decide) : JE X c (.Name x pos) ρ i (tC v) (fun post _ => post m) :=
  ⟨pe_glob hg hm rv hd, fun post ep φ G H σ w E Q k hx => k G H _ _ (Gr.refl w) (h G) φ⟩
theorem two_sem {Φ : α → β → Pt γ} {R : R2} (ho : ∀ (rs : Rs) (G H : Hp) (x y : V) (a : α) (b : β) (post : γ → Prop) (ep : Exn → Prop) (Q : VK), Wd rs G H → iα.rp X.K G x a → iβ.rp X.K G y b → Φ a b post ep → (∀ G' H' z m, Gr rs G H G' H' → iγ.rp X.K G' z m → post m → Q z H') → R x y H Q)
    (ha : JE X c a ρ iα ta Φa) (hb : JE X c b ρ iβ tb Φb) (post : γ → Prop) (ep : Exn → Prop) (φ : Φa (fun x => Φb (fun y => Φ x y post ep) ep) ep) (G H : Hp) (σ : L2.St) (w : Wd c.rs G H) (E : En X.K c.rs c.H0 G H σ ρ) (Q : VK)
    (k : ∀ G' H' v m, Gr c.rs G H G' H' → iγ.rp X.K G' v m → post m → Q v H') (hx : XOk X c G H σ ep) : ta σ H fun x H1 => tb σ H1 fun y H2 => R x y H2 Q := by
  refine ha.sem _ _ φ G H σ w E _ (fun G1 H1 v1 m1 g1 r1 φ1 => ?_) hx
  refine hb.sem _ _ φ1 G1 H1 σ g1.w (E.up g1) _ (fun G2 H2 v2 m2 g2 r2 φ2 => ?_) (hx.up g1)
  exact ho _ _ _ _ _ _ _ _ _ _ g2.w (Rp.mono g2.g r1) r2 φ2 fun G3 H3 z m g3 r3 p => k G3 H3 z m ((g1.trans g2).trans g3) r3 p
theorem e_op {op : Operator} {Φ : α → β → Pt γ} (ho : OpW X (binaryOp op) iα iβ iγ r Φ) (ha : JE X c a ρ iα ta Φa) (hb : JE X c b ρ iβ tb Φb) : JE X c (.BinOp a op b pos) ρ iγ (tOp r ta tb) (fun post ep => Φa (fun x => Φb (fun y => Φ x y post ep) ep) ep) :=
  ⟨pe_op ho.pe ha.pe hb.pe, fun post ep φ G H σ w E Q k hx => two_sem ho.sem ha hb post ep φ G H σ w E Q k hx⟩
theorem e_un {op : UnaryOp} {r : V → Hp → VK → Prop} {Φ : α → Pt γ} (ho : UnW X (unaryOp op) iα iγ r Φ) (ha : JE X c a ρ iα ta Φa) : JE X c (.UnaryOp op a pos) ρ iγ (tUn r ta) (fun post ep => Φa (fun x => Φ x post ep) ep) := by
  refine ⟨pe_un ho.pe ha.pe, fun post ep φ G H σ w E Q k hx => ?_⟩
  refine ha.sem _ _ φ G H σ w E _ (fun G1 H1 v1 m1 g1 r1 φ1 => ?_) hx
  exact ho.sem _ _ _ _ _ _ _ _ g1.w r1 φ1 fun G3 H3 z m g3 r3 p => k G3 H3 z m (g1.trans g3) r3 p
theorem e_cmp {op : CmpOp} {Φ : α → β → Pt γ} (ho : OpW X (compareOp op) iα iβ iγ r Φ) (ha : JE X c a ρ iα ta Φa) (hb : JE X c b ρ iβ tb Φb) (hm : behindInMarks op b = false) : JE X c (.Compare a [op] [b] pos) ρ iγ (tOp r ta tb) (fun post ep => Φa (fun x => Φb (fun y => Φ x y post ep) ep) ep) :=
  ⟨pe_cmpR ho.pe ha.pe hb.pe hm, fun post ep φ G H σ w E Q k hx => two_sem ho.sem ha hb post ep φ G H σ w E Q k hx⟩
theorem t_cmp {op : CmpOp} {Φ : α → β → Pt Bool} (ho : OpW X (compareOp op) iα iβ rpB r Φ) (ha : JE X c a ρ iα ta Φa) (hb : JE X c b ρ iβ tb Φb) (hm : behindInMarks op b = false) : JT X c (.Compare a [op] [b] pos) ρ (tTest (tOp r ta tb)) (fun post ep => Φa (fun x => Φb (fun y => Φ x y post ep) ep) ep) :=
  ⟨pt_cmpR ho.pe ha.pe hb.pe hm, fun post ep φ G H σ w E Q k hx => two_sem (iγ := rpB) ho.sem ha hb post ep φ G H σ w E _ (fun G3 H3 z m g r3 p => ⟨m, r3, k G3 H3 m g p⟩) hx⟩
section
variable {d : Expr} {δ : Type} {iδ : Rp δ} {Φd : Pt δ} {op op' : CmpOp} {Φ : α → β → Pt Bool} {Φ' : β → δ → Pt Bool}
theorem chain_sem (ho : OpW X (compareOp op) iα iβ rpB r Φ) (ho' : OpW X (compareOp op') iβ iδ rpB r' Φ') (ha : JE X c a ρ iα ta Φa) (hb : JE X c b ρ iβ tb Φb) (hd : JE X c d ρ iδ td Φd)
    (post : Bool → Prop) (ep : Exn → Prop) (φ : Φa (fun x => Φb (fun y => Φ x y (fun k => if k = true then Φd (fun z => Φ' y z post ep) ep else post false) ep) ep) ep) (G H : Hp) (σ : L2.St) (w : Wd c.rs G H) (E : En X.K c.rs c.H0 G H σ ρ) (Q : VK)
    (k : ∀ G' H' v m, Gr c.rs G H G' H' → rpB.rp X.K G' v m → post m → Q v H') (hx : XOk X c G H σ ep) : tChain r r' ta tb td σ H Q := by
  refine ha.sem _ _ φ G H σ w E _ (fun G1 H1 v1 m1 g1 r1 φ1 => ?_) hx
  refine hb.sem _ _ φ1 G1 H1 σ g1.w (E.up g1) _ (fun G2 H2 v2 m2 g2 r2 φ2 => ?_) (hx.up g1)
  refine ho.sem _ _ _ _ _ _ _ _ _ _ g2.w (Rp.mono g2.g r1) r2 φ2 fun G3 H3 z m g3 r3 φ3 => ⟨m, r3, ?_⟩
  have g := (g1.trans g2).trans g3
  cases m with
  | false => exact k G3 H3 _ _ g rfl φ3
  | true =>
    refine hd.sem _ _ φ3 G3 H3 σ g3.w (E.up g) _ (fun G4 H4 v4 m4 g4 r4 φ4 => ?_) (hx.up g)
    exact ho'.sem _ _ _ _ _ _ _ _ _ _ g4.w (Rp.mono (g3.g.trans g4.g) r2) r4 φ4 fun G5 H5 z m g5 r5 p => k G5 H5 z m ((g.trans g4).trans g5) r5 p
theorem e_chain (ho : OpW X (compareOp op) iα iβ rpB r Φ) (ho' : OpW X (compareOp op') iβ iδ rpB r' Φ') (ha : JE X c a ρ iα ta Φa) (hb : JE X c b ρ iβ tb Φb) (hd : JE X c d ρ iδ td Φd) (hm : lastMarks [op, op'] [b, d] = false := by with_unfolding_all rfl) :
    JE X c (.Compare a [op, op'] [b, d] pos) ρ rpB (tChain r r' ta tb td) (fun post ep => Φa (fun x => Φb (fun y => Φ x y (fun k => if k = true then Φd (fun z => Φ' y z post ep) ep else post false) ep) ep) ep) :=
  ⟨pe_chain ho.pe ho'.pe ha.pe hb.pe hd.pe hm, fun post ep φ G H σ w E Q k hx => chain_sem ho ho' ha hb hd post ep φ G H σ w E Q k hx⟩
theorem t_chain (ho : OpW X (compareOp op) iα iβ rpB r Φ) (ho' : OpW X (compareOp op') iβ iδ rpB r' Φ') (ha : JE X c a ρ iα ta Φa) (hb : JE X c b ρ iβ tb Φb) (hd : JE X c d ρ iδ td Φd) (hm : lastMarks [op, op'] [b, d] = false := by with_unfolding_all rfl) :
    JT X c (.Compare a [op, op'] [b, d] pos) ρ (tTest (tChain r r' ta tb td)) (fun post ep => Φa (fun x => Φb (fun y => Φ x y (fun k => if k = true then Φd (fun z => Φ' y z post ep) ep else post false) ep) ep) ep) :=
  ⟨pt_chain ho.pe ho'.pe ha.pe hb.pe hd.pe hm, fun post ep φ G H σ w E Q k hx => chain_sem ho ho' ha hb hd post ep φ G H σ w E _ (fun G' H' v m g r p => ⟨m, r, k G' H' m g p⟩) hx⟩
end
/-! ### tests -/
variable {t1 t2 t3 : TT}
theorem t_val {Φa : Pt Bool} (ha : JE X c a ρ rpB ta Φa) (he : ∀ whole, isTrue a X.env whole = (do let v ← whole; standAt a.pos; holding [v] (truthy v)) := by intro _; rfl) : JT X c a ρ (tB ta) Φa :=
  ⟨pt_val ha.pe he, fun post ep φ G H σ w E Q k hx => ha.sem _ _ φ G H σ w E _ (fun G1 H1 v1 m1 g1 r1 p => ⟨m1, r1, k G1 H1 m1 g1 p⟩) hx⟩
theorem t_tru {f : α → Bool} (hf : TruW iα f) (ha : JE X c a ρ iα ta Φa) (he : ∀ whole, isTrue a X.env whole = (do let v ← whole; standAt a.pos; holding [v] (truthy v)) := by intro _; rfl) :
    JT X c a ρ (fun σ H Q => ta σ H fun x H' => ∃ k, TruV X.K x H' k ∧ Q k H') (fun post ep => Φa (fun x => post (f x)) ep) :=
  ⟨pt_truth ha.pe he, fun post ep φ G H σ w E Q k hx => ha.sem _ _ φ G H σ w E _ (fun G1 H1 v1 m1 g1 r1 p => ⟨f m1, hf X.K G1 H1 v1 m1 g1.w.s r1, k G1 H1 _ g1 p⟩) hx⟩
variable {Φ1 Φ2 : Pt Bool} {rest : List Expr}
theorem t_not (ha : JT X c a ρ t1 Φ1) : JT X c (.UnaryOp .Not a pos) ρ (tNot t1) (fun post ep => Φ1 (fun k => post (!k)) ep) :=
  ⟨pt_not ha.pe, fun post ep φ G H σ w E Q k hx => ha.sem _ _ φ G H σ w E _ (fun G1 H1 m1 g1 p => k G1 H1 _ g1 p) hx⟩
theorem t_pw (h : JW X c a ρ t1 Φ1) : JT X c a ρ t1 Φ1 := ⟨h.pe.pt, h.sem⟩
theorem tw_and1 (ha : JT X c a ρ t1 Φ1) : JW X c (.BoolOp .And [a] pos) ρ t1 Φ1 := ⟨pw_and1 ha.pe, ha.sem⟩
theorem tw_or1 (ha : JT X c a ρ t1 Φ1) : JW X c (.BoolOp .Or [a] pos) ρ t1 Φ1 := ⟨pw_or1 ha.pe, ha.sem⟩
theorem tw_and (ha : JT X c a ρ t1 Φ1) (hb : JW X c (.BoolOp .And (b :: rest) pos) ρ t2 Φ2) : JW X c (.BoolOp .And (a :: b :: rest) pos) ρ (tAnd t1 t2) (fun post ep => Φ1 (fun k => if k = true then Φ2 post ep else post false) ep) := by
  refine ⟨pw_and ha.pe hb.pe, fun post ep φ G H σ w E Q k hx => ha.sem _ _ φ G H σ w E _ (fun G1 H1 m1 g1 p => ?_) hx⟩
  cases m1 with
  | false => exact k G1 H1 _ g1 p
  | true => exact hb.sem _ _ p G1 H1 σ g1.w (E.up g1) _ (fun G2 H2 m2 g2 p => k G2 H2 _ (g1.trans g2) p) (hx.up g1)
theorem tw_or (ha : JT X c a ρ t1 Φ1) (hb : JW X c (.BoolOp .Or (b :: rest) pos) ρ t2 Φ2) : JW X c (.BoolOp .Or (a :: b :: rest) pos) ρ (tOr t1 t2) (fun post ep => Φ1 (fun k => if k = true then post true else Φ2 post ep) ep) := by
  refine ⟨pw_or ha.pe hb.pe, fun post ep φ G H σ w E Q k hx => ha.sem _ _ φ G H σ w E _ (fun G1 H1 m1 g1 p => ?_) hx⟩
  cases m1 with
  | true => exact k G1 H1 _ g1 p
  | false => exact hb.sem _ _ p G1 H1 σ g1.w (E.up g1) _ (fun G2 H2 m2 g2 p => k G2 H2 _ (g1.trans g2) p) (hx.up g1)
/-! ### and, or, not as values (bools) -/
theorem e_one {op : BoolOp} (ha : JE X c a ρ iα ta Φa) : JE X c (.BoolOp op [a] pos) ρ iα ta Φa := ⟨pe_one ha.pe, ha.sem⟩
theorem e_and (ha : JE X c a ρ rpB ta Φ1) (hb : JE X c (.BoolOp .And (b :: rest) pos) ρ rpB tb Φ2) : JE X c (.BoolOp .And (a :: b :: rest) pos) ρ rpB (tAndV ta tb) (fun post ep => Φ1 (fun k => if k = true then Φ2 post ep else post false) ep) := by
  refine ⟨pe_and ha.pe hb.pe, fun post ep φ G H σ w E Q k hx => ha.sem _ _ φ G H σ w E _ (fun G1 H1 v1 m1 g1 r1 p => ⟨m1, r1, ?_⟩) hx⟩
  cases m1 with
  | false => exact k G1 H1 _ _ g1 rfl p
  | true => exact hb.sem _ _ p G1 H1 σ g1.w (E.up g1) _ (fun G2 H2 v2 m2 g2 r2 p => k G2 H2 _ _ (g1.trans g2) r2 p) (hx.up g1)
theorem e_or (ha : JE X c a ρ rpB ta Φ1) (hb : JE X c (.BoolOp .Or (b :: rest) pos) ρ rpB tb Φ2) : JE X c (.BoolOp .Or (a :: b :: rest) pos) ρ rpB (tOrV ta tb) (fun post ep => Φ1 (fun k => if k = true then post true else Φ2 post ep) ep) := by
  refine ⟨pe_or ha.pe hb.pe, fun post ep φ G H σ w E Q k hx => ha.sem _ _ φ G H σ w E _ (fun G1 H1 v1 m1 g1 r1 p => ⟨m1, r1, ?_⟩) hx⟩
  cases m1 with
  | true => exact k G1 H1 _ _ g1 rfl p
  | false => exact hb.sem _ _ p G1 H1 σ g1.w (E.up g1) _ (fun G2 H2 v2 m2 g2 r2 p => k G2 H2 _ _ (g1.trans g2) r2 p) (hx.up g1)
theorem e_not (ha : JE X c a ρ rpB ta Φ1) : JE X c (.UnaryOp .Not a pos) ρ rpB (tNotV ta) (fun post ep => Φ1 (fun k => post (!k)) ep) :=
  ⟨pe_not ha.pe, fun post ep φ G H σ w E Q k hx => ha.sem _ _ φ G H σ w E _ (fun G1 H1 v1 m1 g1 r1 p => ⟨m1, r1, k G1 H1 _ _ g1 rfl p⟩) hx⟩
theorem e_if {t : Expr} {Φt : Pt Bool} {Φa' : Pt α} (ht : JT X c t ρ t1 Φt) (ha : JE X c a ρ iα ta Φa) (hb : JE X c b ρ iα tb Φa') : JE X c (.IfExp t a b pos) ρ iα (tIf t1 ta tb) (fun post ep => Φt (fun k => if k = true then Φa post ep else Φa' post ep) ep) := by
  refine ⟨pe_ifExp ht.pe ha.pe hb.pe, fun post ep φ G H σ w E Q k hx => ht.sem _ _ φ G H σ w E _ (fun G1 H1 m1 g1 p => ?_) hx⟩
  cases m1 with
  | true => exact ha.sem _ _ p G1 H1 σ g1.w (E.up g1) _ (fun G2 H2 v2 m2 g2 r2 p => k G2 H2 _ _ (g1.trans g2) r2 p) (hx.up g1)
  | false => exact hb.sem _ _ p G1 H1 σ g1.w (E.up g1) _ (fun G2 H2 v2 m2 g2 r2 p => k G2 H2 _ _ (g1.trans g2) r2 p) (hx.up g1)
/-! ### arguments, displays, items, calls -/
theorem a_nil : JA X c [] ρ aNil tNil (fun post _ => post ()) := ⟨pa_nil, fun post ep φ G H σ w E Q k hx => k G H [] () (Gr.refl w) .nil φ⟩
theorem a_cons {es : List Expr} {ι : Type} {as : ι → List Sl} {tr : TA} {Φr : Pt ι} (ha : JE X c a ρ iα ta Φa) (hr : JA X c es ρ as tr Φr) (hs : starEach (a :: es) X.env = (false, eval a X.env) :: starEach es X.env := by rfl) :
    JA X c (a :: es) ρ (aCons iα as) (tCons ta tr) (fun post ep => Φa (fun x => Φr (fun y => post (x, y)) ep) ep) := by
  refine ⟨pa_cons ha.pe hr.pe hs, fun post ep φ G H σ w E Q k hx => ha.sem _ _ φ G H σ w E _ (fun G1 H1 v1 m1 g1 r1 p => ?_) hx⟩
  exact hr.sem _ _ p G1 H1 σ g1.w (E.up g1) _ (fun G2 H2 vs x g2 r2 p => k G2 H2 _ (m1, x) (g1.trans g2) (.cons (.val (Rp.mono g2.g r1)) r2) p) (hx.up g1)
/-- the resource's own name -/
theorem a_rf {es : List Expr} {ι : Type} {as : ι → List Sl} {tr : TA} {Φr : Pt ι} {q : Addr} (j : Nat) {x : Str} (hρ : ρ[j]? = some (.rf q)) (hr : JA X c es ρ as tr Φr) (hN : X.N[j]? = some x := by rfl) (hv : Vis X.env.scope x := by first | exact Or.inl rfl | exact Or.inr (Or.inl rfl) | exact Or.inr (Or.inr rfl))
    (hd : (x == ("__debug__" : Str)) = false := by decide) (hcd : (x == ("__classdict__" : Str)) = false := by decide) (hs : starEach (.Name x pos :: es) X.env = (false, eval (.Name x pos) X.env) :: starEach es X.env := by rfl) :
    JA X c (.Name x pos :: es) ρ (aRf q as) (tCons (tVar j) tr) Φr := by
  refine ⟨pa_cons (pe_var hN hv hd hcd) hr.pe hs, fun post ep φ G H σ w E Q k hx => ⟨_, E.ok j _ hρ, ?_⟩⟩
  exact hr.sem _ _ φ G H σ w E _ (fun G2 H2 vs x g2 r2 p => k G2 H2 _ x g2 (.cons .rf r2) p) hx
theorem e_tup2 {e1 e2 : Expr} {k0 : Nat} {t : TA} {Φ : Pt (α × β × Unit)} (h : JA X c [e1, e2] ρ (aCons iα (aCons iβ aNil)) t Φ) : JE X c (.Tuple [e1, e2] k0 pos) ρ (rp2 (i := iα) (j := iβ)) (tTup t) (fun post ep => Φ (fun x => post (x.1, x.2.1)) ep) := by
  refine ⟨pe_tup h.pe, fun post ep φ G H σ w E Q k hx => h.sem _ _ φ G H σ w E _ (fun G1 H1 vs x g1 r1 p => ?_) hx⟩
  obtain ⟨v, u, rfl, h1, h2⟩ := two2 r1
  refine ⟨by show 2 ≤ sizeLine; decide, fun q hq => ?_⟩
  have g := gr_new (o := .tup [v, u]) g1.w hq
  exact k _ _ _ _ (g1.trans g) ⟨q, v, u, rfl, SqT.of upd_same, Rp.mono g.g h1, Rp.mono g.g h2⟩ p
/-- all arguments of one type -/
inductive AllA {α : Type} (i : Rp α) : {ι : Type} → (ι → List Sl) → (ι → List α) → Prop
  | nil : AllA i aNil (fun _ => [])
  | cons {ι : Type} {as : ι → List Sl} {f : ι → List α} : AllA i as f → AllA i (aCons i as) (fun x => x.1 :: f x.2)
theorem AllA.out {α : Type} {i : Rp α} {ι : Type} {as : ι → List Sl} {f : ι → List α} (h : AllA i as f) : ∀ {K : Fg} {G : Hp} {vs : List V} {x : ι}, ArgsOk K G vs (as x) → RpAll i K G vs (f x) := by
  induction h with
  | nil =>
    intro K G vs x r
    cases r
    exact .nil
  | cons _ ih =>
    intro K G vs x r
    cases r with
    | cons r t =>
      cases r with
      | val r => exact .cons r (ih t)
theorem e_list {es : List Expr} {ι : Type} {as : ι → List Sl} {f : ι → List α} {t : TA} {Φ : Pt ι} (h : JA X c es ρ as t Φ) (ha : AllA iα as f) : JE X c (.List es pos) ρ (rpL (i := iα)) (tLst t) (fun post ep => Φ (fun x => (f x).length ≤ sizeLine ∧ post (f x)) ep) := by
  refine ⟨pe_lst h.pe, fun post ep φ G H σ w E Q k hx => h.sem _ _ φ G H σ w E _ (fun G1 H1 vs x g1 r1 p => ?_) hx⟩
  have r := ha.out r1
  have hz : vs.length ≤ sizeLine := by rw [r.length]; exact p.1
  refine ⟨hz, fun q hq => ?_⟩
  have g := gr_new (o := .lst vs) g1.w hq
  exact k _ _ _ _ (g1.trans g) ⟨q, vs, rfl, upd_same, r.mono g.g, hz⟩ p.2
theorem e_ix {Φ : α → β → Pt γ} (ho : IxW X iα iβ iγ r Φ) (ha : JE X c a ρ iα ta Φa) (hb : JE X c b ρ iβ tb Φb) (hs : PlainIxT b := by exact fun _ _ => rfl) : JE X c (.Subscript a b pos) ρ iγ (tOp r ta tb) (fun post ep => Φa (fun x => Φb (fun y => Φ x y post ep) ep) ep) :=
  ⟨pe_ix ho.pe ha.pe hb.pe hs, fun post ep φ G H σ w E Q k hx => two_sem ho.sem ha hb post ep φ G H σ w E Q k hx⟩
section
variable {x : Str} {p : Pos} {e : Expr} {es : List Expr} {ι : Type} {as : ι → List Sl} {Φr : Pt ι} {Φ : ι → Pt γ} {t : TA} {rc : List V → Hp → VK → Prop}
theorem e_cb {id : String} (hc : CallW X (.builtin id) as iγ rc Φ) (hm : X.mg x = none) (ha : JA X c (e :: es) ρ as t Φr) (hv : bootBuiltins x = some (.builtin id) := by decide +kernel) (hg : Gl X x := by rfl) (hn : x ≠ "__name__" := by decide) (hdb : (x == ("__debug__" : Str)) = false := by decide)
    (he : starEach (e :: es) X.env = (false, eval e X.env) :: starEach es X.env := by rfl) (hpl : (backTo pos (starEach es X.env)).any (·.1) = false := by rfl) : JE X c (.Call (.Name x p) (e :: es) [] pos) ρ iγ (tCB rc t) (fun post ep => Φr (fun y => Φ y post ep) ep) := by
  refine ⟨pe_callB hc.pe hg hm hv ha.pe hn hdb he hpl, fun post ep φ G H σ w E Q k hx => ha.sem _ _ φ G H σ w E _ (fun G1 H1 vs y g1 r1 φ1 => ?_) hx⟩
  exact hc.sem _ _ _ _ _ _ _ _ g1.w r1 φ1 fun G3 H3 z m g3 r3 p => k G3 H3 z m (g1.trans g3) r3 p
theorem e_ct {T : String} (hc : CallW X (.type T) as iγ rc Φ) (hm : X.mg x = none) (ha : JA X c (e :: es) ρ as t Φr) (hv : bootBuiltins x = some (.type T) := by decide +kernel) (hg : Gl X x := by rfl) (hn : x ≠ "__name__" := by decide) (hdb : (x == ("__debug__" : Str)) = false := by decide)
    (he : starEach (e :: es) X.env = (false, eval e X.env) :: starEach es X.env := by rfl) (hpl : (backTo pos (starEach es X.env)).any (·.1) = false := by rfl) : JE X c (.Call (.Name x p) (e :: es) [] pos) ρ iγ (tCB rc t) (fun post ep => Φr (fun y => Φ y post ep) ep) := by
  refine ⟨pe_callTy hc.pe hg hm hv ha.pe hn hdb he hpl, fun post ep φ G H σ w E Q k hx => ha.sem _ _ φ G H σ w E _ (fun G1 H1 vs y g1 r1 φ1 => ?_) hx⟩
  exact hc.sem _ _ _ _ _ _ _ _ g1.w r1 φ1 fun G3 H3 z m g3 r3 p => k G3 H3 z m (g1.trans g3) r3 p
end
end

/-! ### what a def promises -/
def spOf (K : Fg) (rs : Rs) {ι β : Type} (as : ι → List Sl) (i : Rp β) (Φ : ι → Pt β) : Sp := fun vs H Q E =>
  ∃ (G : Hp) (x : ι) (post : β → Prop) (ep : Exn → Prop), Wd rs G H ∧ ArgsOk K G vs (as x) ∧ Φ x post ep ∧ (∀ G' H' v m, Gr rs G H G' H' → i.rp K G' v m → post m → Q v H') ∧
    ∀ G' H' cls d e, Gr rs G H G' H' → XRep K G' H' cls d e → ep e → E cls d H'
/-- with a resource that stands at q -/
def spR (K : Fg) (rs : Addr → Rs) {ι β : Type} (as : Addr → ι → List Sl) (i : Rp β) (Φ : ι → Pt β) : Sp := fun vs H Q E => ∃ q, spOf K (rs q) (as q) i Φ vs H Q E
section
variable {X : Cx} {c : Cn} {ρ : List Sl} {β ι : Type} {i : Rp β} {as : ι → List Sl} {Φr : Pt ι} {Φ : ι → Pt β} {k : Nat} {f : Addr} {fd : FuncData} {ps : List Str} {x : Str} {p pos : Pos} {e : Expr} {es : List Expr} {t : TA}
theorem e_callG {sp : Sp} (hsp : ∀ (G H : Hp) (vs : List V) (y : ι) (post : β → Prop) (ep : Exn → Prop) (Q : VK) (E : XK), Wd c.rs G H → ArgsOk X.K G vs (as y) → Φ y post ep → (∀ G' H' v m, Gr c.rs G H G' H' → i.rp X.K G' v m → post m → Q v H') →
      (∀ G' H' cls d e, Gr c.rs G H G' H' → XRep X.K G' H' cls d e → ep e → E cls d H') → sp vs H Q E)
    (F : FnOk X.prog X.w X.K X.mg X.base (L2.CX X.prog X.w) k f fd ps sp) (hr : Room k X.A) (hm : X.mg x = some (.ref f)) (hk : PySem.W.keepIn X.K (.ref f) = true) (hb : Binds X.K fd ps []) (tk : Takes X c.wsh)
    (ha : JA X c (e :: es) ρ as t Φr) (hg : Gl X x := by rfl) (hdb : (x == ("__debug__" : Str)) = false := by decide) (he : starEach (e :: es) X.env = (false, eval e X.env) :: starEach es X.env := by rfl) (hpl : (backTo pos (starEach es X.env)).any (·.1) = false := by rfl) :
    JE X c (.Call (.Name x p) (e :: es) [] pos) ρ i (tCallS sp (fun σ => L2.WE c.wsh σ) t) (fun post ep => Φr (fun y => Φ y post ep) ep) := by
  refine ⟨pe_callS F hr hg hm hk hb (fun σ => passAt tk σ) ha.pe hdb he hpl, fun post ep φ G H σ w E Q k hx => ha.sem _ _ φ G H σ w E _ (fun G1 H1 vs y g1 r1 φ1 => ?_) hx⟩
  exact hsp G1 H1 vs y post ep _ _ g1.w r1 φ1 (fun G3 H3 z m g3 r3 p => k G3 H3 z m (g1.trans g3) r3 p) fun G3 H3 cls d e g3 r3 p => (hx.up g1) G3 H3 cls d e g3 r3 p
/-- a def that touches no resource -/
theorem e_call (F : FnOk X.prog X.w X.K X.mg X.base (L2.CX X.prog X.w) k f fd ps (spOf X.K rs0 as i Φ)) (hr : Room k X.A) (hm : X.mg x = some (.ref f)) (hk : PySem.W.keepIn X.K (.ref f) = true) (hb : Binds X.K fd ps []) (tk : Takes X c.wsh)
    (ha : JA X c (e :: es) ρ as t Φr) (hg : Gl X x := by rfl) (hdb : (x == ("__debug__" : Str)) = false := by decide) (he : starEach (e :: es) X.env = (false, eval e X.env) :: starEach es X.env := by rfl) (hpl : (backTo pos (starEach es X.env)).any (·.1) = false := by rfl) :
    JE X c (.Call (.Name x p) (e :: es) [] pos) ρ i (tCallS (spOf X.K rs0 as i Φ) (fun σ => L2.WE c.wsh σ) t) (fun post ep => Φr (fun y => Φ y post ep) ep) :=
  e_callG (fun G H vs y post ep Q E w a φ hq he => ⟨G, y, post, ep, w.to0, a, φ, fun G' H' v m g r p => hq G' H' v m (g.lift w) r p, fun G' H' cls d e g r p => he G' H' cls d e (g.lift w) r p⟩) F hr hm hk hb tk ha hg hdb he hpl
/-- a def that turns the resource at q -/
theorem e_callR {rs : Addr → Rs} {as : Addr → ι → List Sl} {q : Addr} (hc : c.rs = rs q) (F : FnOk X.prog X.w X.K X.mg X.base (L2.CX X.prog X.w) k f fd ps (spR X.K rs as i Φ)) (hr : Room k X.A) (hm : X.mg x = some (.ref f)) (hk : PySem.W.keepIn X.K (.ref f) = true) (hb : Binds X.K fd ps []) (tk : Takes X c.wsh)
    (ha : JA X c (e :: es) ρ (as q) t Φr) (hg : Gl X x := by rfl) (hdb : (x == ("__debug__" : Str)) = false := by decide) (he : starEach (e :: es) X.env = (false, eval e X.env) :: starEach es X.env := by rfl) (hpl : (backTo pos (starEach es X.env)).any (·.1) = false := by rfl) :
    JE X c (.Call (.Name x p) (e :: es) [] pos) ρ i (tCallS (spR X.K rs as i Φ) (fun σ => L2.WE c.wsh σ) t) (fun post ep => Φr (fun y => Φ y post ep) ep) :=
  e_callG (fun G H vs y post ep Q E w a φ hq he => ⟨q, G, y, post, ep, hc ▸ w, a, φ, fun G' H' v m g r p => hq G' H' v m (hc ▸ g) r p, fun G' H' cls d e g r p => he G' H' cls d e (hc ▸ g) r p⟩) F hr hm hk hb tk ha hg hdb he hpl
end
end Ty

set_option Elab.async false
set_option linter.all false
set_option maxRecDepth 100000
set_option maxHeartbeats 4000000
set_option autoImplicit false
/-! Ty, part C: statements, loops, comprehensions, defs -/
namespace Ty
open PySem PySem.Spec L2

/-! ### targets -/
structure JG (X : Cx) (tg : Expr) {α : Type} (i : Rp α) (g : TG) (js : List Nat) (f : α → List Sl → List Sl) : Prop where
  pe : PG X tg g
  sem : ∀ (rs : Rs) (H0 G H : Hp) (σ : L2.St) (ρ : List Sl) (v : V) (m : α), Wd rs G H → En X.K rs H0 G H σ ρ → i.rp X.K G v m → ∀ Q : L2.St → Hp → Prop,
    (∀ σ', En X.K rs H0 G H σ' (f m ρ) → (∀ vs : List Nat, (∀ j ∈ js, j ∈ vs) → wipe σ' vs = wipe σ vs) → Q σ' H) → g v σ H Q
theorem wipe_set {σ : L2.St} {j : Nat} {v : Option V} : ∀ {vs : List Nat}, j ∈ vs → wipe (σ.set j v) vs = wipe σ vs
  | [], h => by cases h
  | a :: vs, h => by
    unfold wipe
    by_cases e : j ∈ vs
    · rw [wipe_set e]
    · have ea : j = a := by
        rcases List.mem_cons.mp h with h | h
        · exact h
        · exact absurd h e
      subst ea
      have : ∀ (us : List Nat) (τ : L2.St), j ∉ us → wipe (τ.set j v) us = (wipe τ us).set j v := by
        intro us
        induction us with
        | nil => intro τ _; rfl
        | cons b us ih =>
          intro τ hb
          have h1 : j ≠ b := fun q => hb (q ▸ List.mem_cons_self)
          have h2 : j ∉ us := fun q => hb (List.mem_cons_of_mem _ q)
          show (wipe (τ.set j v) us).set b none = ((wipe τ us).set b none).set j v
          rw [ih τ h2, List.set_comm _ _ h1]
      rw [this vs σ e, List.set_set]
section
variable {X : Cx} {pos : Pos}
theorem g_name {α : Type} {i : Rp α} (j : Nat) {x : Str} (hN : X.N.Nodup) (hj : X.N[j]? = some x := by rfl) (hx : Loc X.env.scope x := by first | exact Or.inl rfl | exact Or.inr rfl) (hf : X.fn x = true ∨ X.env.scope.names.lookup x = some .local := by first | exact .inl rfl | exact .inr rfl) :
    JG X (.Name x pos) i (gName j) [j] (fun m ρ => ρ.set j (.val i m)) :=
  ⟨pg_name hN hj hx hf, fun rs H0 G H σ ρ v m w E r Q k => k _ (E.set (x := .val i m) ⟨v, rfl, r⟩ rfl) fun vs h => wipe_set (h j (List.mem_singleton.mpr rfl))⟩
theorem g_tup2 {α β : Type} {i : Rp α} {j : Rp β} {e1 e2 : Expr} {g1 g2 : TG} {j1 j2 : List Nat} {f1 : α → List Sl → List Sl} {f2 : β → List Sl → List Sl} {k0 : Nat} (hc : X.calm = true) (h1 : JG X e1 i g1 j1 f1) (h2 : JG X e2 j g2 j2 f2)
    (hs1 : (assignEach [e1, e2] X.env).map (·.2) = assign e1 X.env :: (assignEach [e2] X.env).map (·.2) := by rfl) (hs2 : (assignEach [e2] X.env).map (·.2) = assign e2 X.env :: (assignEach [] X.env).map (·.2) := by rfl)
    (hn : (assignEach [e1, e2] X.env).length = 2 := by rfl) (hst : (assignEach [e1, e2] X.env).findIdx? (·.1) = none := by rfl) :
    JG X (.Tuple [e1, e2] k0 pos) (rp2 (i := i) (j := j)) (gTup X.K 2 (gCons g1 (gCons g2 gNil))) (j1 ++ j2) (fun m ρ => f2 m.2 (f1 m.1 ρ)) := by
  refine ⟨pg_tup hc (pgs_cons h1.pe (pgs_cons h2.pe pgs_nil hs2) hs1) hn hst, fun rs H0 G H σ ρ v m w E r Q k => ?_⟩
  obtain ⟨a, x, y, rfl, h3, h4, h5⟩ := r
  refine ⟨a, [x, y], rfl, w.s.st h3, rfl, x, [y], rfl, h1.sem rs H0 G H σ ρ x m.1 w E h4 _ fun σ1 E1 w1 => ⟨y, [], rfl, h2.sem rs H0 G H σ1 _ y m.2 w E1 h5 _ fun σ2 E2 w2 => ⟨rfl, k σ2 E2 fun vs h => ?_⟩⟩⟩
  rw [w2 vs fun j hj => h j (List.mem_append_right _ hj), w1 vs fun j hj => h j (List.mem_append_left _ hj)]
end

/-! ### walks -/
structure WalkG (K : Fg) {α : Type} (i : Rp α) (J : It) (st : Hp → Prop) (xs : List α) : Prop where
  mono : ∀ G G', Ex G G' → st G → st G'
  go : ∃ (Gd : Hp → Prop) (Y : Nat → Hp → V → Hp → Prop), Walk J xs.length Gd Y ∧ (∀ G H, Ex G H → st G → Gd H) ∧
    ∀ (rs : Rs) (j : Nat) (m : α) (G H : Hp) (x : V) (H' : Hp), Wd rs G H → st G → xs[j]? = some m → Y j H x H' → ∃ G', Gr rs G H G' H' ∧ i.rp K G' x m
structure JI (X : Cx) (c : Cn) (tg iter : Expr) (ρ : List Sl) {α : Type} (i : Rp α) (wi : TI) (Φ : Pt (List α)) : Prop where
  pe : PI X tg iter wi
  sem : ∀ post ep, Φ post ep → ∀ G H σ, Wd c.rs G H → En X.K c.rs c.H0 G H σ ρ → ∀ R : It → Hp → Prop, (∀ G' H' J xs st, Gr c.rs G H G' H' → WalkG X.K i J st xs → st G' → post xs → R J H') → XOk X c G H σ ep → wi σ H R
def rangeI (lo : Int) (n : Nat) : List Int := (List.range n).map fun (k : Nat) => lo + (k : Int)
theorem walkG_list {K : Fg} {α : Type} {i : Rp α} {a : Addr} {vs : List V} {xs : List α} (hl : vs.length = xs.length) : WalkG K i (Itl K a) (fun G => G a = some (.lst vs) ∧ RpAll i K G vs xs) xs := by
  refine ⟨fun G G' e h => ⟨e _ _ h.1, h.2.mono e⟩, _, _, hl ▸ walk_list (K := K) (a := a) (xs := vs), fun G H e h => SqL.of (e _ _ h.1), fun rs j m G H x H' w h e y => ?_⟩
  obtain ⟨rfl, hx⟩ := y
  obtain ⟨v, h1, h2⟩ := h.2.get e
  rw [hx] at h1
  cases h1
  exact ⟨G, Gr.refl w, h2⟩
theorem walkG_tup {K : Fg} {α : Type} {i : Rp α} {a : Addr} {vs : List V} {xs : List α} (hl : vs.length = xs.length) : WalkG K i (Itt K a) (fun G => SqT K G a vs ∧ RpAll i K G vs xs) xs := by
  refine ⟨fun G G' e h => ⟨e.st h.1, h.2.mono e⟩, _, _, hl ▸ walk_tup (K := K) (a := a) (xs := vs), fun G H e h => e.st h.1, fun rs j m G H x H' w h e y => ?_⟩
  obtain ⟨rfl, hx⟩ := y
  obtain ⟨v, h1, h2⟩ := h.2.get e
  rw [hx] at h1
  cases h1
  exact ⟨G, Gr.refl w, h2⟩
theorem walkG_range {K : Fg} {lo : Int} {n : Nat} : WalkG K rpI (Itr lo n) (fun _ => True) (rangeI lo n) := by
  have hl : (rangeI lo n).length = n := by simp [rangeI]
  have hw : Walk (Itr lo n) (rangeI lo n).length (fun _ => True) (YFn fun i => .int (lo + i)) := by
    rw [hl]
    exact walk_range
  refine ⟨fun _ _ _ h => h, _, _, hw, fun _ _ _ _ => trivial, fun rs j m G H x H' w h e y => ?_⟩
  obtain ⟨rfl, hx⟩ := y
  refine ⟨G, Gr.refl w, ?_⟩
  have q : j < n := by
    have := (List.getElem?_eq_some_iff.mp e).1
    rw [hl] at this
    exact this
  unfold rangeI at e
  rw [List.getElem?_map, List.getElem?_range q] at e
  cases e
  exact hx
section
variable {X : Cx} {c : Cn} {ρ : List Sl} {α : Type} {i : Rp α} {tg e : Expr} {Φ : Pt (List α)} {te : TE} {t : TA}
theorem i_list (he : JE X c e ρ (rpL (i := i)) te Φ) (hs : PI X tg e (iList X.K te)) : JI X c tg e ρ i (iList X.K te) (fun post ep => Φ (fun xs => xs.length ≤ sizeLine → post xs) ep) := by
  refine ⟨hs, fun post ep φ G H σ w E R k hx => he.sem _ _ φ G H σ w E _ (fun G1 H1 v m g r p => ?_) hx⟩
  obtain ⟨a, vs, rfl, h1, h2, h3⟩ := r
  exact ⟨a, rfl, ⟨vs, SqL.of (g.w.s _ _ h1)⟩, k G1 H1 _ m _ g (walkG_list h2.length) ⟨h1, h2⟩ (p (h2.length ▸ h3))⟩
theorem i_tup {Φ : Pt (Tu α)} (he : JE X c e ρ (rpT (i := i)) te Φ) (hs : PI X tg e (iTup X.K te)) : JI X c tg e ρ i (iTup X.K te) (fun post ep => Φ (fun xs => xs.l.length ≤ sizeLine → post xs.l) ep) := by
  refine ⟨hs, fun post ep φ G H σ w E R k hx => he.sem _ _ φ G H σ w E _ (fun G1 H1 v m g r p => ?_) hx⟩
  obtain ⟨a, vs, rfl, h1, h2, h3⟩ := r
  exact ⟨a, rfl, ⟨vs, g.w.s.st h1⟩, k G1 H1 _ m.l _ g (walkG_tup h2.length) ⟨h1, h2⟩ (p (h2.length ▸ h3))⟩
theorem i_range1 {es : List Expr} {x : Str} {p pos : Pos} {Φ : Pt (Int × Unit)} (ha : JA X c es ρ (aCons rpI aNil) t Φ) (hs : PI X tg e (iRng1 t)) : JI X c tg e ρ rpI (iRng1 t) (fun post ep => Φ (fun n => (-(2 ^ 62) ≤ n.1 ∧ n.1 < 2 ^ 62) ∧ post (rangeI 0 n.1.toNat)) ep) := by
  refine ⟨hs, fun post ep φ G H σ w E R k hx => ha.sem _ _ φ G H σ w E _ (fun G1 H1 vs m g r p => ?_) hx⟩
  obtain ⟨v, rfl, rfl⟩ := one1 r
  exact ⟨m.1, rfl, p.1.1, p.1.2, k G1 H1 _ _ _ g walkG_range trivial p.2⟩
theorem i_range2 {es : List Expr} {x : Str} {p pos : Pos} {Φ : Pt (Int × Int × Unit)} (ha : JA X c es ρ (aCons rpI (aCons rpI aNil)) t Φ) (hs : PI X tg e (iRng2 t)) :
    JI X c tg e ρ rpI (iRng2 t) (fun post ep => Φ (fun n => (-(2 ^ 62) ≤ n.1 ∧ n.1 < 2 ^ 62 ∧ -(2 ^ 62) ≤ n.2.1 ∧ n.2.1 < 2 ^ 62) ∧ post (rangeI n.1 (n.2.1 - n.1).toNat)) ep) := by
  refine ⟨hs, fun post ep φ G H σ w E R k hx => ha.sem _ _ φ G H σ w E _ (fun G1 H1 vs m g r p => ?_) hx⟩
  obtain ⟨v, u, rfl, rfl, rfl⟩ := two2 r
  exact ⟨m.1, m.2.1, rfl, p.1, k G1 H1 _ _ _ g walkG_range trivial p.2⟩
end

/-! ### blocks -/
def seqP {S1 S L β : Type} (Φr : S1 → Pt (Out S L β)) (post : Out S L β → Prop) (ep : Exn → Prop) : Out S1 L β → Prop
  | .nx s => Φr s post ep
  | .rt b => post (.rt b)
  | .bk l => post (.bk l)
  | .ct l => post (.ct l)
def forP {α S β : Type} (Φb : α → S → Pt (Out S S β)) (fin : S → Prop) (rt : β → Prop) (ep : Exn → Prop) : List α → S → Prop
  | [], s => fin s
  | x :: r, s => Φb x s (fun
    | .nx s' => forP Φb fin rt ep r s'
    | .ct s' => forP Φb fin rt ep r s'
    | .bk s' => fin s'
    | .rt b => rt b) ep
section
variable {X : Cx} {c : Cn} {ρ : List Sl} {S L β α : Type} {out : S → List Sl} {lp : L → List Sl} {i : Rp β} {iα : Rp α} {pos : Pos} {rest : List Stmt} {tr : TS} {e : Expr} {te : TE} {Φe : Pt α}
theorem b_nil (s : S) (h : EnLe ρ (out s)) : JB X c [] ρ out lp i tNext (fun post _ => post (.nx s)) :=
  ⟨pss_nil, fun post ep φ G H σ g E D k hx => k.nx G H σ s g (Ex.refl _) (E.le h) φ⟩
theorem b_set [Nonempty α] (j : Nat) {x : Str} {px : Pos} {Φr : α → Pt (Out S L β)} (hN : X.N.Nodup) (he : JE X c e ρ iα te Φe) (hr : ∀ m, JB X c rest (ρ.set j (.val iα m)) out lp i tr (Φr m)) (hj : X.N[j]? = some x := by rfl) (hx : Loc X.env.scope x := by first | exact Or.inl rfl | exact Or.inr rfl)
    (hs : swapsWith e (some (.Name x px)) pos.line X.env = pure false := by rfl) (hf : X.fn x = true ∨ X.env.scope.names.lookup x = some .local := by first | exact .inl rfl | exact .inr rfl) :
    JB X c (.Assign [.Name x px] e pos :: rest) ρ out lp i (tSeq (tAsg te (gName j)) tr) (fun post ep => Φe (fun m => Φr m post ep) ep) := by
  refine ⟨pss_cons (ps_set hN hj hx he.pe hs hf) (hr (Classical.choice inferInstance)).pe, fun post ep φ G H σ g E D k hx => ?_⟩
  refine he.sem _ _ φ G H σ g.w E _ (fun G1 H1 v m g1 r p => ?_) (hx.at g)
  exact (hr m).sem _ _ p G1 H1 _ (g.trans g1) ((E.up g1).set (x := .val iα m) ⟨v, rfl, r⟩ rfl) D (k.up g1.g) hx
/-- .. of any target -/
theorem b_asg [Nonempty α] {tg : Expr} {gt : TG} {js : List Nat} {f : α → List Sl → List Sl} {Φr : α → Pt (Out S L β)} (he : JE X c e ρ iα te Φe) (hg : JG X tg iα gt js f) (hr : ∀ m, JB X c rest (f m ρ) out lp i tr (Φr m)) (hs : swapsWithSole [tg] e pos.line X.env = pure false := by rfl) (hw : swappedStores [tg] e X.env = pure none := by rfl)
    (h1 : (assignEach [tg] X.env).map (·.2) = [assign tg X.env] := by rfl) : JB X c (.Assign [tg] e pos :: rest) ρ out lp i (tSeq (tAsg te gt) tr) (fun post ep => Φe (fun m => Φr m post ep) ep) := by
  refine ⟨pss_cons (ps_asg he.pe hg.pe hs hw h1) (hr (Classical.choice inferInstance)).pe, fun post ep φ G H σ g E D k hx => ?_⟩
  refine he.sem _ _ φ G H σ g.w E _ (fun G1 H1 v m g1 r p => ?_) (hx.at g)
  exact hg.sem c.rs c.H0 G1 H1 σ ρ v m g1.w (E.up g1) r _ fun σ' E' _ => (hr m).sem _ _ p G1 H1 σ' (g.trans g1) E' D (k.up g1.g) hx
theorem b_ret {Φe : Pt β} (he : JE X c e ρ i te Φe) : JB X c (.Return (some e) pos :: rest) ρ out lp i (tSeq (tRet te) tNever) (fun post ep => Φe (fun m => post (.rt m)) ep) := by
  refine ⟨pss_cons (ps_ret he.pe) pss_never, fun post ep φ G H σ g E D k hx => ?_⟩
  exact he.sem _ _ φ G H σ g.w E _ (fun G1 H1 v m g1 r p => k.rt G1 H1 v m (g.trans g1) g1.g r p) (hx.at g)
theorem b_expr {Φr : Pt (Out S L β)} (he : JE X c e ρ iα te Φe) (hr : JB X c rest ρ out lp i tr Φr) (hs : swapsWith e none pos.line X.env = pure false := by rfl) : JB X c (.Expr e pos :: rest) ρ out lp i (tSeq (tDrop te) tr) (fun post ep => Φe (fun _ => Φr post ep) ep) := by
  refine ⟨pss_cons (ps_expr he.pe hs) hr.pe, fun post ep φ G H σ g E D k hx => ?_⟩
  exact he.sem _ _ φ G H σ g.w E _ (fun G1 H1 v m g1 r p => hr.sem _ _ p G1 H1 σ (g.trans g1) (E.up g1) D (k.up g1.g) hx) (hx.at g)
theorem b_pass {Φr : Pt (Out S L β)} (hr : JB X c rest ρ out lp i tr Φr) : JB X c (.Pass pos :: rest) ρ out lp i (tSeq tNext tr) Φr :=
  ⟨pss_cons ps_pass hr.pe, fun post ep φ G H σ g E D k hx => hr.sem _ _ φ G H σ g E D k hx⟩
theorem b_brk (l : L) (h : EnLe ρ (lp l)) : JB X c (.Break pos :: rest) ρ out lp i (tSeq tBreak tNever) (fun post _ => post (.bk l)) :=
  ⟨pss_cons ps_break pss_never, fun post ep φ G H σ g E D k hx => k.bk G H σ l g (Ex.refl _) (E.le h) φ⟩
theorem b_cont (l : L) (h : EnLe ρ (lp l)) : JB X c (.Continue pos :: rest) ρ out lp i (tSeq tCont tNever) (fun post _ => post (.ct l)) :=
  ⟨pss_cons ps_continue pss_never, fun post ep φ G H σ g E D k hx => k.ct G H σ l g (Ex.refl _) (E.le h) φ⟩
theorem b_never : JB X c rest ρ out lp i tNever (fun _ _ => False) := ⟨pss_never, fun post ep φ G H σ g E D k hx => φ⟩
theorem b_if [Nonempty α] {t : Expr} {b1 b2 : List Stmt} {tt : TT} {t1 t2 : TS} {Φt : Pt Bool} {Φ1 Φ2 : Pt (Out α L β)} {Φr : α → Pt (Out S L β)} {mid : α → List Sl} (ht : JT X c t ρ tt Φt) (h1 : JB X c b1 ρ mid lp i t1 Φ1) (h2 : JB X c b2 ρ mid lp i t2 Φ2) (hr : ∀ s, JB X c rest (mid s) out lp i tr (Φr s)) :
    JB X c (.If t b1 b2 pos :: rest) ρ out lp i (tSeq (tIfS tt t1 t2) tr) (fun post ep => Φt (fun k => if k = true then Φ1 (seqP Φr post ep) ep else Φ2 (seqP Φr post ep) ep) ep) := by
  refine ⟨pss_cons (ps_if ht.pe h1.pe h2.pe) (hr (Classical.choice inferInstance)).pe, fun post ep φ G H σ g E D k hx => ?_⟩
  refine ht.sem _ _ φ G H σ g.w E _ (fun G1 H1 m g1 p => ?_) (hx.at g)
  have k := k.up g1.g
  have ends : EndsOk X c G1 i mid lp (seqP Φr post ep) { D with nx := tr D } :=
    ⟨fun G' H' σ' s g' x' E' p' => (hr s).sem _ _ p' G' H' σ' g' E' D (k.up x') hx, fun G' H' v b g' x' r p' => k.rt G' H' v b g' x' r p', fun G' H' σ' l g' x' E' p' => k.bk G' H' σ' l g' x' E' p', fun G' H' σ' l g' x' E' p' => k.ct G' H' σ' l g' x' E' p'⟩
  cases m with
  | true => exact h1.sem _ _ p G1 H1 σ (g.trans g1) (E.up g1) _ ends hx
  | false => exact h2.sem _ _ p G1 H1 σ (g.trans g1) (E.up g1) _ ends hx
/-- an if that is the last statement of its block -/
theorem b_ifE {t : Expr} {b1 b2 : List Stmt} {tt : TT} {t1 t2 : TS} {Φt : Pt Bool} {Φ1 Φ2 : Pt (Out S L β)} (ht : JT X c t ρ tt Φt) (h1 : JB X c b1 ρ out lp i t1 Φ1) (h2 : JB X c b2 ρ out lp i t2 Φ2) :
    JB X c [.If t b1 b2 pos] ρ out lp i (tIfS tt t1 t2) (fun post ep => Φt (fun k => if k = true then Φ1 post ep else Φ2 post ep) ep) := by
  refine ⟨pss_one (ps_if ht.pe h1.pe h2.pe), fun post ep φ G H σ g E D k hx => ?_⟩
  refine ht.sem _ _ φ G H σ g.w E _ (fun G1 H1 m g1 p => ?_) (hx.at g)
  cases m with
  | true => exact h1.sem _ _ p G1 H1 σ (g.trans g1) (E.up g1) _ (k.up g1.g) hx
  | false => exact h2.sem _ _ p G1 H1 σ (g.trans g1) (E.up g1) _ (k.up g1.g) hx
theorem b_for [Nonempty α] {T : Type} {tg iter : Expr} {wi : TI} {gt : TG} {js : List Nat} {f : α → List Sl → List Sl} {body : List Stmt} {tb : TS} {Φi : Pt (List α)} {Φb : α → T → Pt (Out T T β)} {Φr : T → Pt (Out S L β)} {lpS : T → List Sl}
    (s0 : T) (h0 : EnLe ρ (lpS s0)) (hp : PassesOwn (model X.prog X.w) X.A X.env X.xe) (hc : X.calm = true) (hi : JI X c tg iter ρ iα wi Φi) (hg : JG X tg iα gt js f) (hb : ∀ m s, JB X c body (f m (lpS s)) lpS lpS i tb (Φb m s)) (hr : ∀ s, JB X c rest (lpS s) out lp i tr (Φr s))
    (hfs : ∀ x : Value, foldedSetIterable iter X.env x = pure x := by intro _; rfl) :
    JB X c (.For tg iter body [] pos :: rest) ρ out lp i (tSeq (tFor wi gt tb) tr) (fun post ep => Φi (fun xs => forP Φb (fun s => Φr s post ep) (fun b => post (.rt b)) ep xs s0) ep) := by
  refine ⟨pss_cons (ps_for hp hc hi.pe hg.pe (hb (Classical.choice inferInstance) s0).pe hfs) (hr s0).pe, fun post ep φ G H σ g E D k hx => ?_⟩
  refine hi.sem _ _ φ G H σ g.w E _ (fun G1 H1 J xs st g1 wg hst p => ?_) (hx.at g)
  obtain ⟨Gd, Y, wk, hGd, hY⟩ := wg.go
  have k := k.up g1.g
  refine for_it wk (fun n σ' H' => ∃ (G' : Hp) (s : T), Gr c.rs c.G0 c.H0 G' H' ∧ En X.K c.rs c.H0 G' H' σ' (lpS s) ∧ Ex G1 G' ∧ forP Φb (fun s => Φr s post ep) (fun b => post (.rt b)) ep (xs.drop n) s) ⟨G1, s0, g.trans g1, (E.up g1).le h0, Ex.refl _, p⟩ ?_ ?_ ?_
  · rintro n σ' H' _ ⟨G', s, g', E', x', _⟩
    exact hGd G' H' g'.w.s (wg.mono _ _ x' hst)
  · rintro n x σ' H' H'' hn ⟨G', s, g', E', x', p'⟩ y
    have em : xs[n]? = some xs[n] := List.getElem?_eq_getElem hn
    obtain ⟨G2, g2, r2⟩ := hY c.rs n _ G' H' x H'' g'.w (wg.mono _ _ x' hst) em y
    rw [List.drop_eq_getElem_cons hn] at p'
    have x2 := x'.trans g2.g
    refine hg.sem c.rs c.H0 G2 H'' σ' (lpS s) x _ g2.w (E'.up g2) r2 _ fun σ3 E3 _ => (hb xs[n] s).sem _ _ p' G2 H'' σ3 (g'.trans g2) E3 _ ⟨?_, ?_, ?_, ?_⟩ hx
    · exact fun G4 H4 σ4 s4 g4 x4 E4 p4 => ⟨G4, s4, g4, E4, x2.trans x4, p4⟩
    · exact fun G4 H4 v b g4 x4 r p4 => k.rt G4 H4 v b g4 (x2.trans x4) r p4
    · exact fun G4 H4 σ4 s4 g4 x4 E4 p4 => (hr s4).sem _ _ p4 G4 H4 σ4 g4 E4 D (k.up (x2.trans x4)) hx
    · exact fun G4 H4 σ4 s4 g4 x4 E4 p4 => ⟨G4, s4, g4, E4, x2.trans x4, p4⟩
  · rintro σ' H' ⟨G', s, g', E', x', p'⟩
    rw [List.drop_length] at p'
    exact (hr s).sem _ _ p' G' H' σ' g' E' D (k.up x') hx
end
end Ty

set_option Elab.async false
set_option linter.all false
set_option maxRecDepth 100000
set_option maxHeartbeats 4000000
set_option autoImplicit false
/-! Ty, part D: comprehensions, own lists, defs, instances -/
namespace Ty
open PySem PySem.Spec L2

/-- an own object is known for good from now on -/
theorem gr_frz {rs : Rs} {G0 H0 G H : Hp} {l : Addr} {o : HO} (g : Gr rs G0 H0 G H) (h0 : H0 l = none) (hg : G l = none) (hs : ¬ rs.S H l) (hl : H l = some o) : Gr rs G0 H0 (upd G l o) H := by
  refine ⟨g.g.trans (Ex.new hg), g.h, g.t, fun a ha q => ?_, g.f, ⟨fun a u q => ?_, g.w.i, fun a ha => ?_⟩⟩
  · rw [upd_ne fun (z : a = l) => ha (by rw [z]; exact h0)]
    exact g.n a ha q
  · by_cases z : a = l
    · subst z
      rw [upd_same] at q
      rw [← q]
      exact hl
    · rw [upd_ne z] at q
      exact g.w.s a u q
  · rw [upd_ne fun (z : a = l) => hs (by rw [← z]; exact ha)]
    exact g.w.n a ha
theorem not_new {rs : Rs} {G H : Hp} {p : Addr} {o : HO} (w : Wd rs G H) (hp : H p = none) : ¬ rs.S (upd H p o) p := fun z => by
  have e : ∀ a, rs.S H a → upd H p o a = H a := fun a ha => upd_ne fun q => rs.trk w.i ha (q ▸ hp)
  exact rs.trk w.i (((rs.loc w.i e).2 p).mp z) hp

/-! ### comprehensions -/
def lcP {α β : Type} (Φt : α → Pt Bool) (Φe : α → Pt β) (post : List β → Prop) : List α → List β → Prop
  | [], acc => post acc
  | x :: r, acc => Φt x (fun k => if k = true then Φe x (fun y => lcP Φt Φe post r (acc ++ [y])) (fun _ => False) else lcP Φt Φe post r acc) (fun _ => False)
def wipeS (ρ : List Sl) : List Nat → List Sl
  | [] => ρ
  | v :: vs => (wipeS ρ vs).set v .no
theorem En.unset {K : Fg} {rs : Rs} {H0 G H : Hp} {σ : L2.St} {ρ : List Sl} {j : Nat} (h : En K rs H0 G H σ ρ) : En K rs H0 G H (σ.set j none) (ρ.set j .no) := by
  refine ⟨by simp [h.len], fun i y e => ?_, fun i k y z l ne e1 e2 o1 o2 s1 s2 => ?_⟩
  · rcases get_set e with ⟨rfl, rfl, z⟩ | ⟨q, e⟩
    · trivial
    · rw [List.getElem?_set_ne q]
      exact h.ok i y e
  · rcases get_set e1 with ⟨_, rfl, _⟩ | ⟨q1, e1⟩
    · cases o1
    rcases get_set e2 with ⟨_, rfl, _⟩ | ⟨q2, e2⟩
    · cases o2
    rw [List.getElem?_set_ne q1] at s1
    rw [List.getElem?_set_ne q2] at s2
    exact h.sep i k y z l ne e1 e2 o1 o2 s1 s2
theorem En.wipe {K : Fg} {rs : Rs} {H0 G H : Hp} {σ : L2.St} {ρ : List Sl} (h : En K rs H0 G H σ ρ) : ∀ vs : List Nat, En K rs H0 G H (L2.wipe σ vs) (wipeS ρ vs)
  | [] => h
  | v :: vs => (En.wipe h vs).unset
/-- the tests of a comprehension -/
structure JTs (X : Cx) (c : Cn) (ifs : List Expr) (ρ : List Sl) (t : TT) (Φ : Pt Bool) : Prop where
  pe : PTs X ifs t
  sem : ∀ post ep, Φ post ep → ∀ G H σ, Wd c.rs G H → En X.K c.rs c.H0 G H σ ρ → ∀ Q : Bool → Hp → Prop, (∀ G' H' m, Gr c.rs G H G' H' → post m → Q m H') → XOk X c G H σ ep → t σ H Q
theorem ts_nil {X : Cx} {c : Cn} {ρ : List Sl} : JTs X c [] ρ tYes (fun post _ => post true) := ⟨pts_nil, fun post ep φ G H σ w E Q k hx => k G H true (Gr.refl w) φ⟩
theorem ts_one {X : Cx} {c : Cn} {ρ : List Sl} {e : Expr} {t : TT} {Φ : Pt Bool} (h : JT X c e ρ t Φ) : JTs X c [e] ρ t Φ := ⟨pts_one h.pe, h.sem⟩
/-- no exception leaves -/
abbrev Cn.nox (c : Cn) : Cn := ⟨c.rs, c.G0, c.H0, fun _ _ _ _ => False⟩
section
variable {X : Cx} {c : Cn} {ρ ρw : List Sl} {α β : Type} [Nonempty α] {iα : Rp α} {iβ : Rp β} {elt tg iter : Expr} {ifs : List Expr} {scope : Scope} {own : List (Str × Nat)} {pos : Pos} {wi : TI} {g : TG} {js : List Nat} {f : α → List Sl → List Sl} {tt : TT} {te : TE}
  {Φi : Pt (List α)} {Φt : α → Pt Bool} {Φe : α → Pt β}
theorem lc_sem (hjs : ∀ j ∈ js, j ∈ own.map (·.2)) (hw : wipeS ρ (own.map (·.2)) = ρw)
    (hi : JI X c tg iter ρ iα wi Φi) (hg : ∀ (rs : Rs) (H0 G H : Hp) (σ : L2.St) (ρ : List Sl) (v : V) (m : α), Wd rs G H → En X.K rs H0 G H σ ρ → iα.rp X.K G v m → ∀ Q : L2.St → Hp → Prop,
      (∀ σ', En X.K rs H0 G H σ' (f m ρ) → (∀ vs : List Nat, (∀ j ∈ js, j ∈ vs) → wipe σ' vs = wipe σ vs) → Q σ' H) → g v σ H Q)
    (ht : ∀ m post ep, Φt m post ep → ∀ G H σ, Wd c.rs G H → En X.K c.rs c.H0 G H σ (f m ρw) → ∀ Q : Bool → Hp → Prop, (∀ G' H' m, Gr c.rs G H G' H' → post m → Q m H') → XOk X c.nox G H σ ep → tt σ H Q)
    (he : ∀ m post ep, Φe m post ep → ∀ G H σ, Wd c.rs G H → En X.K c.rs c.H0 G H σ (f m ρw) → ∀ Q : VK, (∀ G' H' v m, Gr c.rs G H G' H' → iβ.rp X.K G' v m → post m → Q v H') → XOk X c.nox G H σ ep → te σ H Q)
    (post : List β → Prop) (ep : Exn → Prop) (φ : Φi (fun xs => xs.length ≤ sizeLine ∧ lcP Φt Φe post xs []) ep) (G H : Hp) (σ : L2.St) (w : Wd c.rs G H) (E : En X.K c.rs c.H0 G H σ ρ) (Q : VK)
    (k : ∀ G' H' l vs m, Gr c.rs G H G' H' → H' l = some (.lst vs) → RpAll iβ X.K G' vs m → vs.length ≤ sizeLine → H l = none → G' l = none → ¬ c.rs.S H' l → post m → Q (.ref l) H') (hx : XOk X c G H σ ep) : tLc wi g tt te (own.map (·.2)) σ H Q := by
  refine hi.sem _ _ φ G H σ w E _ (fun G1 H1 J xs st g1 wg hst p => ?_) hx
  obtain ⟨hz, p⟩ := p
  obtain ⟨Gd, Y, wk, hGd, hY⟩ := wg.go
  intro D hD
  have hHD : H D = none := by
    by_cases q : H D = none
    · exact q
    · exact absurd hD (g1.t D q)
  have gD : G1 D = none := by
    by_cases q : G1 D = none
    · exact q
    · cases e : G1 D with
      | none => exact absurd e q
      | some u =>
        have := g1.w.s D u e
        rw [hD] at this
        cases this
  have xo : ∀ (G' H' : Hp) (σ' : L2.St), XOk X c.nox G' H' σ' (fun _ => False) := fun _ _ _ _ _ _ _ _ _ _ z => z.elim
  refine lc_it wk (fun n H' => ∃ (G' : Hp) (vs : List V) (acc : List β), Gr c.rs G1 H1 G' H' ∧ H' D = some (.lst vs) ∧ RpAll iβ X.K G' vs acc ∧ vs.length ≤ n ∧ G' D = none ∧ ¬ c.rs.S H' D ∧ lcP Φt Φe post (xs.drop n) acc) ?_ ?_ ?_ ?_
  · exact ⟨G1, [], [], gr_newH g1.w hD, upd_same, .nil, Nat.le_refl _, gD, not_new g1.w hD, p⟩
  · rintro n H' _ ⟨G', vs, acc, g', _⟩
    exact hGd G' H' g'.w.s (wg.mono _ _ g'.g hst)
  · rintro n x H' H'' hn ⟨G', vs, acc, g', hd, hr, hl, hgD, hsD, p'⟩ y
    have em : xs[n]? = some xs[n] := List.getElem?_eq_getElem hn
    obtain ⟨G2, g2, r2⟩ := hY c.rs n _ G' H' x H'' g'.w (wg.mono _ _ g'.g hst) em y
    rw [List.drop_eq_getElem_cons hn] at p'
    have E2 : En X.K c.rs c.H0 G2 H'' (L2.wipe σ (own.map (·.2))) ρw := hw ▸ ((((E.up g1).up g').up g2)).wipe _
    refine hg c.rs c.H0 G2 H'' _ ρw x _ g2.w E2 r2 _ fun σ3 E3 w3 => ⟨?_, ?_⟩
    · rw [w3 _ hjs]
      have : ∀ (us : List Nat) (τ : L2.St), wipe (wipe τ us) us = wipe τ us := by
        intro us
        have key : ∀ (vs : List Nat) (τ : L2.St) (j : Nat), j ∈ vs → (wipe τ vs).set j none = wipe τ vs := by
          intro vs
          induction vs with
          | nil => intro τ j h; cases h
          | cons b vs ih =>
            intro τ j h
            show ((wipe τ vs).set b none).set j none = (wipe τ vs).set b none
            by_cases e : j = b
            · subst e
              rw [List.set_set]
            · have hj : j ∈ vs := by
                rcases List.mem_cons.mp h with h | h
                · exact absurd h e
                · exact h
              rw [List.set_comm _ _ (fun q => e q.symm), ih τ j hj]
        have sub : ∀ (as bs : List Nat) (τ : L2.St), (∀ j ∈ as, j ∈ bs) → wipe (wipe τ bs) as = wipe τ bs := by
          intro as
          induction as with
          | nil => intro bs τ _; rfl
          | cons a as ih =>
            intro bs τ h
            show (wipe (wipe τ bs) as).set a none = wipe τ bs
            rw [ih bs τ fun j hj => h j (List.mem_cons_of_mem _ hj)]
            exact key bs τ a (h a List.mem_cons_self)
        exact fun τ => sub us us τ fun j hj => hj
      exact this _ _
    · have g3 := g'.trans g2
      have keep : ∀ {Ga Ha Gb Hb : Hp}, Gr c.rs Ga Ha Gb Hb → Ha D = some (.lst vs) → Ga D = none → ¬ c.rs.S Ha D → Hb D = some (.lst vs) ∧ Gb D = none ∧ ¬ c.rs.S Hb D := fun {Ga Ha Gb Hb} gg h1 h2 h3 => by
        refine ⟨gg.h D _ h3 h1, gg.n D (some_ne h1) h2, fun z => ?_⟩
        rcases gg.f D z with q | q
        · exact h3 q
        · rw [q] at h1
          cases h1
      obtain ⟨d1, d2, d3⟩ := keep g2 hd hgD hsD
      refine ht _ _ _ p' G2 H'' σ3 g2.w E3 _ (fun G4 H4 m g4 p4 => ?_) (xo _ _ _)
      obtain ⟨e1, e2, e3⟩ := keep g4 d1 d2 d3
      have g34 := g3.trans g4
      cases m with
      | false => exact ⟨G4, vs, acc, g34, e1, hr.mono (g2.g.trans g4.g), Nat.le_succ_of_le hl, e2, e3, p4⟩
      | true =>
        refine he _ _ _ p4 G4 H4 σ3 g4.w (E3.up g4) _ (fun G5 H5 v m g5 r5 p5 => ?_) (xo _ _ _)
        obtain ⟨f1, f2, f3⟩ := keep g5 e1 e2 e3
        have g345 := g34.trans g5
        have hlt : vs.length < sizeLine := by omega
        refine ⟨vs, f1, hlt, G5, vs ++ [v], acc ++ [m], gr_mut g345 hD f2 f3 (some_ne f1), upd_same, (hr.mono ((g2.g.trans g4.g).trans g5.g)).append (.cons r5 .nil), ?_, f2, ?_, p5⟩
        · rw [List.length_append, List.length_singleton]
          omega
        · intro z
          have e : ∀ a, c.rs.S H5 a → upd H5 D (.lst (vs ++ [v])) a = H5 a := fun a ha => upd_ne fun q => f3 (q ▸ ha)
          exact f3 (((c.rs.loc g5.w.i e).2 D).mp z)
  · rintro H' ⟨G', vs, acc, g', hd, hr, hl, hgD, hsD, p'⟩
    rw [List.drop_length] at p'
    exact k G' H' D vs acc (g1.trans g') hd hr (by omega) hHD hgD hsD p'
theorem e_lc (hc : X.calm = true) (hN : X.N.Nodup) (ok : BlkOk X.N X.env.scope scope own) (hjs : ∀ j ∈ js, j ∈ own.map (·.2)) (hw : wipeS ρ (own.map (·.2)) = ρw) (hi : JI X c tg iter ρ iα wi Φi)
    (hg : ∀ (s : Shared) (H : Hp) (C : Addr) (cl : List (Str × Addr)) (fp : List Addr), JG (X.blk s H scope (compEnvC scope cl C X.env) fp) tg iα g js f)
    (ht : ∀ (s : Shared) (H : Hp) (C : Addr) (cl : List (Str × Addr)) (fp : List Addr) (m : α), JTs (X.blk s H scope (compEnvC scope cl C X.env) fp) c.nox ifs (f m ρw) tt (Φt m))
    (he : ∀ (s : Shared) (H : Hp) (C : Addr) (cl : List (Str × Addr)) (fp : List Addr) (m : α), JE (X.blk s H scope (compEnvC scope cl C X.env) fp) c.nox elt (f m ρw) iβ te (Φe m)) (hs : ∀ x : Value, foldedSetIterable iter X.env x = pure x := by intro _; rfl) :
    JE X c (.ListComp elt [⟨tg, iter, ifs, 0⟩] scope pos) ρ (rpL (i := iβ)) (tLc wi g tt te (own.map (·.2))) (fun post ep => Φi (fun xs => xs.length ≤ sizeLine ∧ lcP Φt Φe post xs []) ep) := by
  have m0 : α := Classical.choice inferInstance
  refine ⟨pe_lc hc hN hi.pe ok (fun s H C cl fp => (hg s H C cl fp).pe) (fun s H C cl fp => (ht s H C cl fp m0).pe) (fun s H C cl fp => (he s H C cl fp m0).pe) hs, fun post ep φ G H σ w E Q k hx => ?_⟩
  refine lc_sem hjs hw hi (hg X.s_0 X.H_0 0 [] []).sem (fun m => (ht X.s_0 X.H_0 0 [] [] m).sem) (fun m => (he X.s_0 X.H_0 0 [] [] m).sem) post ep φ G H σ w E Q (fun G' H' l vs m g h1 h2 h3 h4 h5 h6 p => ?_) hx
  have gf := gr_frz g h4 h5 h6 h1
  exact k _ _ _ _ gf ⟨l, vs, rfl, upd_same, h2.mono (Ex.new h5), h3⟩ p
/-- name = [..] on one line -/
theorem b_setLc {S L γ : Type} {out : S → List Sl} {lp : L → List Sl} {iγ : Rp γ} {rest : List Stmt} {tr : TS} {spos : Pos} {y : Str} {py : Pos} {Φr : List β → Pt (Out S L γ)} (j : Nat) (hc : X.calm = true) (hN : X.N.Nodup) (ok : BlkOk X.N X.env.scope scope own) (hjs : ∀ j ∈ js, j ∈ own.map (·.2)) (hw : wipeS ρ (own.map (·.2)) = ρw) (hi : JI X c tg iter ρ iα wi Φi)
    (hg : ∀ (s : Shared) (H : Hp) (C : Addr) (cl : List (Str × Addr)) (fp : List Addr), JG (X.blk s H scope (compEnvC scope cl C X.env) fp) tg iα g js f)
    (ht : ∀ (s : Shared) (H : Hp) (C : Addr) (cl : List (Str × Addr)) (fp : List Addr) (m : α), JTs (X.blk s H scope (compEnvC scope cl C X.env) fp) c.nox ifs (f m ρw) tt (Φt m))
    (he : ∀ (s : Shared) (H : Hp) (C : Addr) (cl : List (Str × Addr)) (fp : List Addr) (m : α), JE (X.blk s H scope (compEnvC scope cl C X.env) fp) c.nox elt (f m ρw) iβ te (Φe m))
    (hr : ∀ m, JB X c rest (ρ.set j (.val (rpL (i := iβ)) m)) out lp iγ tr (Φr m)) (hj : X.N[j]? = some y := by rfl) (hyl : X.env.scope.names.lookup y = some .local := by rfl)
    (hsw : swapsWith (.ListComp elt [⟨tg, iter, ifs, 0⟩] scope pos) (some (.Name y py)) spos.line X.env = pure true := by exact sw_true rfl rfl rfl (by decide +kernel)) (hs : ∀ x : Value, foldedSetIterable iter X.env x = pure x := by intro _; rfl) :
    JB X c (.Assign [.Name y py] (.ListComp elt [⟨tg, iter, ifs, 0⟩] scope pos) spos :: rest) ρ out lp iγ (tSeq (tAsg (tLc wi g tt te (own.map (·.2))) (gName j)) tr)
      (fun post ep => Φi (fun xs => xs.length ≤ sizeLine ∧ lcP Φt Φe (fun m => Φr m post ep) xs []) ep) := by
  have m0 : α := Classical.choice inferInstance
  refine ⟨pss_cons (ps_setLc hc hN hj hyl hsw hi.pe ok (fun s H C cl fp => (hg s H C cl fp).pe) (fun s H C cl fp => (ht s H C cl fp m0).pe) (fun s H C cl fp => (he s H C cl fp m0).pe) hs) (hr []).pe, fun post ep φ G H σ gg E D k hx => ?_⟩
  show tLc wi g tt te (own.map (·.2)) σ H fun x H1 => gName j x σ H1 (fun σ' H' => tr D σ' H')
  refine lc_sem hjs hw hi (hg X.s_0 X.H_0 0 [] []).sem (fun m => (ht X.s_0 X.H_0 0 [] [] m).sem) (fun m => (he X.s_0 X.H_0 0 [] [] m).sem) (fun m => Φr m post ep) ep φ G H σ gg.w E _ (fun G' H' l vs m g h1 h2 h3 h4 h5 h6 p => ?_) (hx.at gg)
  have gf := gr_frz g h4 h5 h6 h1
  exact (hr m).sem _ _ p _ _ _ (gg.trans gf) ((E.up gf).set (x := .val (rpL (i := iβ)) m) ⟨_, rfl, l, vs, rfl, upd_same, h2.mono (Ex.new h5), h3⟩ rfl) D (k.up gf.g) hx
end

/-! ### own lists -/
theorem En.setOwn {K : Fg} {rs : Rs} {H0 G H : Hp} {σ : L2.St} {ρ : List Sl} {j : Nat} {l : Addr} {x : Sl} (h : En K rs H0 G H σ ρ) (hx : SlOk K rs H0 G H (some (some (.ref l))) x)
    (hn : ∀ (k : Nat) (y : Sl), k ≠ j → ρ[k]? = some y → y.own = true → σ[k]? ≠ some (some (.ref l))) : En K rs H0 G H (σ.set j (some (.ref l))) (ρ.set j x) := by
  refine ⟨by simp [h.len], fun i y e => ?_, fun i k y z q ne e1 e2 o1 o2 s1 s2 => ?_⟩
  · rcases get_set e with ⟨rfl, rfl, z⟩ | ⟨q, e⟩
    · rw [List.getElem?_set_self (by rw [h.len]; exact z)]
      exact hx
    · rw [List.getElem?_set_ne q]
      exact h.ok i y e
  · rcases get_set e1 with ⟨rfl, rfl, z1⟩ | ⟨q1, e1⟩
    · rcases get_set e2 with ⟨rfl, _, _⟩ | ⟨q2, e2⟩
      · exact ne rfl
      · rw [List.getElem?_set_self (by rw [h.len]; exact z1)] at s1
        rw [List.getElem?_set_ne q2] at s2
        cases s1
        exact hn k z (fun e => q2 e.symm) e2 o2 s2
    · rw [List.getElem?_set_ne q1] at s1
      have e1' : ρ[i]? = some y := by assumption
      rcases get_set e2 with ⟨hjk, hzx, z2⟩ | ⟨q2, e2⟩
      · rw [← hjk, List.getElem?_set_self (by rw [h.len]; exact z2)] at s2
        cases s2
        exact hn i y (fun e => q1 e.symm) e1' o1 s1
      · rw [List.getElem?_set_ne q2] at s2
        exact h.sep i k y z q ne e1' e2 o1 o2 s1 s2
theorem En.own_some {K : Fg} {rs : Rs} {H0 G H : Hp} {σ : L2.St} {ρ : List Sl} (h : En K rs H0 G H σ ρ) {k : Nat} {y : Sl} {l : Addr} (e : ρ[k]? = some y) (o : y.own = true) (s : σ[k]? = some (some (.ref l))) : H l ≠ none := by
  have q := h.ok k y e
  cases y with
  | no => cases o
  | val i m => cases o
  | rf a => cases o
  | ml i xs =>
    obtain ⟨l', vs, h1, h2, _⟩ := q
    rw [s] at h1
    cases h1
    exact some_ne h2
  | md i xs =>
    obtain ⟨l', vs, h1, h2, _⟩ := q
    rw [s] at h1
    cases h1
    exact some_ne h2
  | oi l' C fs =>
    obtain ⟨dx, vs, h1, h2, _⟩ := q
    rw [s] at h1
    cases h1
    exact some_ne h2
/-- an own object is changed: the others stay -/
theorem En.mut {K : Fg} {rs : Rs} {H0 G H : Hp} {σ : L2.St} {ρ : List Sl} {j : Nat} {l : Addr} {x0 x : Sl} {o : HO} (h : En K rs H0 G H σ ρ) (w : Wd rs G H) (hj : ρ[j]? = some x0) (ho : x0.own = true) (hs : σ[j]? = some (some (.ref l))) (hl : H l = some o) (ns : ¬ rs.S H l) (no : ∀ a, o ≠ .own a) {o' : HO}
    (hx : SlOk K rs H0 G (upd H l o') (some (some (.ref l))) x) : En K rs H0 G (upd H l o') σ (ρ.set j x) := by
  have es : ∀ a, rs.S H a → upd H l o' a = H a := fun a ha => upd_ne fun z => ns (z ▸ ha)
  have S' := (rs.loc w.i es).2
  refine ⟨by simp [h.len], fun i y e => ?_, fun i k y z q ne e1 e2 o1 o2 s1 s2 => ?_⟩
  · rcases get_set e with ⟨rfl, rfl, z⟩ | ⟨q, e⟩
    · rw [hs]
      exact hx
    · have p := h.ok i y e
      cases y with
      | no => trivial
      | val i m => exact p
      | rf a => exact p
      | ml ii xs =>
        obtain ⟨l', vs, h1, h2, h3, h4, h5, h6⟩ := p
        have ne : l' ≠ l := fun z => h.sep j i _ _ l q hj e ho rfl hs (z ▸ h1)
        exact ⟨l', vs, h1, by rw [upd_ne ne]; exact h2, h3, h4, h5, fun z => h6 ((S' l').mp z)⟩
      | md ii xs =>
        obtain ⟨l', vs, h1, h2, h3, h4, h5, h6⟩ := p
        have ne : l' ≠ l := fun z => h.sep j i _ _ l q hj e ho rfl hs (z ▸ h1)
        exact ⟨l', vs, h1, by rw [upd_ne ne]; exact h2, h3, h4, h5, fun z => h6 ((S' l').mp z)⟩
      | oi l' C fs =>
        obtain ⟨dx, vs, h1, h2, h3, h4, h5, h6, h7, h8, h9, h10⟩ := p
        have ne : l' ≠ l := fun z => h.sep j i _ _ l q hj e ho rfl hs (z ▸ h1)
        have nd : dx ≠ l := fun z => by
          rw [z, hl] at h7
          exact no _ (Option.some.inj h7)
        exact ⟨dx, vs, h1, by rw [upd_ne ne]; exact h2, h3, h4, h5, fun z => h6 ((S' l').mp z), by rw [upd_ne nd]; exact h7, h8, h9, fun z => h10 ((S' dx).mp z)⟩
  · have back : ∀ {a : Nat} {b : Sl}, (ρ.set j x)[a]? = some b → b.own = true → ∃ b', ρ[a]? = some b' ∧ b'.own = true := fun {a b} e ob => by
      rcases get_set e with ⟨rfl, rfl, _⟩ | ⟨_, e⟩
      · exact ⟨_, hj, ho⟩
      · exact ⟨_, e, ob⟩
    obtain ⟨y', e1', o1'⟩ := back e1 o1
    obtain ⟨z', e2', o2'⟩ := back e2 o2
    exact h.sep i k _ _ q ne e1' e2' o1' o2' s1 s2
section
variable {X : Cx} {c : Cn} {ρ : List Sl} {S L β α : Type} {out : S → List Sl} {lp : L → List Sl} {i : Rp β} {iα : Rp α} {pos : Pos} {rest : List Stmt} {tr : TS} {e : Expr} {te : TE} {Φe : Pt α}
/-- x = [] -/
theorem b_new (iα : Rp α) (j : Nat) {x : Str} {px p1 : Pos} {Φr : Pt (Out S L β)} (hN : X.N.Nodup) (hr : JB X c rest (ρ.set j (.ml iα [])) out lp i tr Φr) (hj : X.N[j]? = some x := by rfl) (hx : Loc X.env.scope x := by first | exact Or.inl rfl | exact Or.inr rfl)
    (hs : swapsWith (.List [] p1) (some (.Name x px)) pos.line X.env = pure false := by rfl) (hf : X.fn x = true ∨ X.env.scope.names.lookup x = some .local := by first | exact .inl rfl | exact .inr rfl) :
    JB X c (.Assign [.Name x px] (.List [] p1) pos :: rest) ρ out lp i (tSeq (tAsg (tLst tNil) (gName j)) tr) Φr := by
  refine ⟨pss_cons (ps_set hN hj hx (pe_lst pa_nil) hs hf) hr.pe, fun post ep φ G H σ g E D k hx => ?_⟩
  refine ⟨Nat.zero_le _, fun p hp => ?_⟩
  have gn := gr_newH (o := .lst []) g.w hp
  have h0 : c.H0 p = none := by
    by_cases q : c.H0 p = none
    · exact q
    · exact absurd hp (g.t p q)
  have hg : G p = none := by
    cases e : G p with
    | none => rfl
    | some u =>
      have := g.w.s p u e
      rw [hp] at this
      cases this
  refine hr.sem _ _ φ G _ _ (g.trans gn) ((E.up gn).setOwn (x := .ml iα []) ⟨p, [], rfl, upd_same, .nil, h0, hg, not_new g.w hp⟩ fun q y _ ey oy sy => ?_) D k hx
  exact absurd hp (E.own_some ey oy sy)
/-- x.append(e) -/
theorem b_app {xs : List α} (j : Nat) {x : Str} {px pa pc : Pos} {Φr : α → Pt (Out S L β)} (hρ : ρ[j]? = some (.ml iα xs)) [Nonempty α] (he : JE X c e ρ iα te Φe) (hr : ∀ m, JB X c rest (ρ.set j (.ml iα (xs ++ [m]))) out lp i tr (Φr m))
    (hpe : PE X (.Call (.Attribute (.Name x px) "append" pa) [e] [] pc) (tBM X.K "list" rAppend (tVar j) (tCons te tNil))) (hs : swapsWith (.Call (.Attribute (.Name x px) "append" pa) [e] [] pc) none pos.line X.env = pure false := by rfl) :
    JB X c (.Expr (.Call (.Attribute (.Name x px) "append" pa) [e] [] pc) pos :: rest) ρ out lp i (tSeq (tDrop (tBM X.K "list" rAppend (tVar j) (tCons te tNil))) tr) (fun post ep => Φe (fun m => xs.length < sizeLine ∧ Φr m post ep) ep) := by
  refine ⟨pss_cons (ps_expr hpe hs) (hr (Classical.choice inferInstance)).pe, fun post ep φ G H σ g E D k hx => ?_⟩
  obtain ⟨l, vs, h1, h2, h3, h4, h5, h6⟩ := E.ok j _ hρ
  refine ⟨.ref l, h1, .inl ⟨rfl, vs, SqL.of h2⟩, ?_⟩
  refine he.sem _ _ φ G H σ g.w E _ (fun G1 H1 v m g1 r p => ?_) (hx.at g)
  obtain ⟨l', vs', h1', h2', h3', h4', h5', h6'⟩ := (E.up g1).ok j _ hρ
  rw [h1] at h1'
  cases h1'
  have hlen := h3'.length
  refine ⟨l, vs', v, rfl, rfl, h2', by rw [hlen]; exact p.1, ?_⟩
  have gm := gr_mut (o := .lst (vs' ++ [v])) (g.trans g1) h4' h5' h6' (some_ne h2')
  have es : ∀ a, c.rs.S H1 a → upd H1 l (.lst (vs' ++ [v])) a = H1 a := fun a ha => upd_ne fun z => h6' (z ▸ ha)
  refine (hr m).sem _ _ p.2 G1 _ σ gm ((E.up g1).mut g1.w hρ rfl h1 h2' h6' (fun a z => by cases z) (x := .ml iα (xs ++ [m])) ⟨l, vs' ++ [v], rfl, upd_same, h3'.append (.cons r .nil), h4', h5', fun z => h6' (((c.rs.loc g1.w.i es).2 l).mp z)⟩) D (k.up g1.g) hx
/-- an own list is known for good from here on -/
theorem b_frz {xs : List α} (j : Nat) {Φr : Pt (Out S L β)} (hρ : ρ[j]? = some (.ml iα xs)) (hr : JB X c rest (ρ.set j (.val (rpL (i := iα)) xs)) out lp i tr Φr) : JB X c rest ρ out lp i tr (fun post ep => xs.length ≤ sizeLine ∧ Φr post ep) := by
  refine ⟨hr.pe, fun post ep φ G H σ g E D k hx => ?_⟩
  obtain ⟨l, vs, h1, h2, h3, h4, h5, h6⟩ := E.ok j _ hρ
  have hlen := h3.length
  have gf := gr_frz g h4 h5 h6 h2
  have E' : En X.K c.rs c.H0 (upd G l (.lst vs)) H σ (ρ.set j (.val (rpL (i := iα)) xs)) := by
    refine ⟨by simp [E.len], fun q y e => ?_, fun q r y z b ne e1 e2 o1 o2 s1 s2 => ?_⟩
    · rcases get_set e with ⟨rfl, rfl, z⟩ | ⟨qq, e⟩
      · exact ⟨.ref l, h1, l, vs, rfl, upd_same, h3.mono (Ex.new h5), by rw [hlen]; exact φ.1⟩
      · have p := E.ok q y e
        cases y with
        | no => trivial
        | val ii m =>
          obtain ⟨v, p1, p2⟩ := p
          exact ⟨v, p1, Rp.mono (Ex.new h5) p2⟩
        | rf a => exact p
        | ml ii ys =>
          obtain ⟨l', vs', q1, q2, q3, q4, q5, q6⟩ := p
          have ne : l' ≠ l := fun z => E.sep j q _ _ l qq hρ e rfl rfl h1 (z ▸ q1)
          exact ⟨l', vs', q1, q2, q3.mono (Ex.new h5), q4, by rw [upd_ne ne]; exact q5, q6⟩
        | md ii ys =>
          obtain ⟨l', vs', q1, q2, q3, q4, q5, q6⟩ := p
          have ne : l' ≠ l := fun z => E.sep j q _ _ l qq hρ e rfl rfl h1 (z ▸ q1)
          exact ⟨l', vs', q1, q2, q3.mono (Ex.new h5), q4, by rw [upd_ne ne]; exact q5, q6⟩
        | oi l' C fs =>
          obtain ⟨dx, vs', q1, q2, q3, q4, q5, q6, q7, q8, q9, q10⟩ := p
          have ne : l' ≠ l := fun z => E.sep j q _ _ l qq hρ e rfl rfl h1 (z ▸ q1)
          have nd : dx ≠ l := fun z => by
            rw [z, h2] at q7
            cases q7
          exact ⟨dx, vs', q1, q2, q3.mono (Ex.new h5), q4, by rw [upd_ne ne]; exact q5, q6, q7, q8, by rw [upd_ne nd]; exact q9, q10⟩
    · rcases get_set e1 with ⟨_, rfl, _⟩ | ⟨q1, e1⟩
      · cases o1
      rcases get_set e2 with ⟨_, rfl, _⟩ | ⟨q2, e2⟩
      · cases o2
      exact E.sep q r y z b ne e1 e2 o1 o2 s1 s2
  exact hr.sem _ _ φ.2 _ H σ gf E' D (k.up (Ex.new h5)) hx
end
end Ty

set_option Elab.async false
set_option linter.all false
set_option maxRecDepth 100000
set_option maxHeartbeats 4000000
set_option autoImplicit false
/-! Ty, part E: defs, instances, own operators -/
namespace Ty
open PySem PySem.Spec PyProof.Rows L2

theorem en_no : ∀ ρ : List Sl, EnLe ρ (List.replicate ρ.length .no)
  | [] => .nil
  | x :: r => .cons (.no x) (en_no r)
theorem en_args {K : Fg} {rs : Rs} {H0 G H : Hp} : ∀ {vs : List V} {as : List Sl}, ArgsOk K G vs as → ∀ (n : Nat), En K rs H0 G H (vs.map some ++ List.replicate n none) (as ++ List.replicate n .no) := by
  intro vs as h n
  have len := h.len
  have noOwn : ∀ (i : Nat) (x : Sl), (as ++ List.replicate n Sl.no)[i]? = some x → x.own = false := by
    intro i x e
    have all : ∀ (vs : List V) (as : List Sl), ArgsOk K G vs as → ∀ x ∈ as, x.own = false := by
      intro vs as h
      induction h with
      | nil => intro x hx; cases hx
      | cons h _ ih =>
        intro x hx
        rcases List.mem_cons.mp hx with rfl | hx
        · cases h <;> rfl
        · exact ih x hx
    rcases List.mem_append.mp (List.mem_of_getElem? e) with q | q
    · exact all vs as h x q
    · rw [List.eq_of_mem_replicate q]
      rfl
  refine ⟨by simp [len], fun i x e => ?_, fun i j x y l ne e1 e2 o1 o2 s1 s2 => ?_⟩
  · have get : ∀ (vs : List V) (as : List Sl), ArgsOk K G vs as → ∀ (i : Nat) (x : Sl), as[i]? = some x → ∃ v, vs[i]? = some v ∧ ArgOk K G v x := by
      intro vs as h
      induction h with
      | nil => intro i x e; simp at e
      | cons h _ ih =>
        intro i x e
        cases i with
        | zero =>
          simp at e
          subst e
          exact ⟨_, rfl, h⟩
        | succ i =>
          obtain ⟨v, h1, h2⟩ := ih i x (by simpa using e)
          exact ⟨v, by simpa using h1, h2⟩
    by_cases hi : i < as.length
    · rw [List.getElem?_append_left hi] at e
      obtain ⟨v, h1, h2⟩ := get vs as h i x e
      have hs : (vs.map some ++ List.replicate n none)[i]? = some (some v) := by
        rw [List.getElem?_append_left (by simpa [len] using hi), List.getElem?_map, h1]
        rfl
      rw [hs]
      cases h2 with
      | val h2 => exact ⟨v, rfl, h2⟩
      | rf => rfl
    · rw [List.getElem?_append_right (by omega)] at e
      rw [List.eq_of_mem_replicate (List.mem_of_getElem? e)]
      trivial
  · rw [noOwn i x e1] at o1
    cases o1

/-! ### THE RULE for a def -/
section
variable {P : Program} {w : World} {K : Fg} {mg : Str → Option Value} {base : Heap} {x qual : Str} {params : Arguments} {body : List Stmt} {scope : Scope} {f : Addr} {fd : FuncData} {N ps : List Str} {k : Nat} {ι β : Type} {i : Rp β}
abbrev Cf (P : Program) (w : World) (K : Fg) (mg : Str → Option Value) (base : Heap) (N : List Str) (qual : Str) (scope : Scope) (f : Addr) (cdv : Value) (A : Around) (outer : List Env) (s : Shared) (H : Hp) (E : XK) : Cx := cxOf (L2.CX P w) P w K mg base N qual scope f cdv A outer s H E
abbrev Cc (rs : Rs) (G H : Hp) (E : XK) : Cn := ⟨rs, G, H, fun cls d _ H' => E cls d H'⟩
/-- what is wanted of a body's ends -/
def endP {S L β : Type} (fall : Prop) (post : β → Prop) : Out S L β → Prop
  | .rt b => post b
  | .nx _ => fall
  | _ => False
theorem fn_core {dvs : List V} {kws : List (Str × V)} (F : FunD K x qual params body scope dvs kws f fd) (S : FnScope N ps scope) {Lx : Type} {lp : Lx → List Sl} {sp : Sp} (fall : (β → Prop) → Prop) (hfall : ∀ (post : β → Prop) G v, fall post → v = V.non → ∃ m, i.rp K G v m ∧ post m)
    (hsp : ∀ vs H Q E, sp vs H Q E → ∃ (rs : Rs) (as : List Sl) (G : Hp) (Φ : Pt β) (post : β → Prop) (ep : Exn → Prop), Wd rs G H ∧ ArgsOk K G vs as ∧ Φ post ep ∧ (∀ G' H' v m, Gr rs G H G' H' → i.rp K G' v m → post m → Q v H') ∧ (∀ G' H' cls d e, Gr rs G H G' H' → XRep K G' H' cls d e → ep e → E cls d H') ∧ as.length = ps.length ∧
      ∀ (cdv : Value) (A : Around) (outer : List Env) (s : Shared), Room k (A.deeper (envOfC qual scope s.heap.objs.size f cdv)) → ∃ tb Φb, JB (Cf P w K mg base N qual scope f cdv A outer s H E) (Cc rs G H E) body (as ++ List.replicate (N.length - ps.length) .no) (fun _ : Unit => List.replicate N.length .no) lp i tb Φb ∧ (∀ post ep, Φ post ep → Φb (endP (fall post) post) ep)) :
    FnOk P w K mg base (L2.CX P w) (k + 1) f fd ps sp := by
  refine F.ok S (fun vs H Q E h => ?_) (fun cdv A outer s H vs Q E hr h => ?_)
  · obtain ⟨rs, as, G, Φ, post, ep, _, ha, _, _, _, hl, _⟩ := hsp vs H Q E h
    exact ha.len.trans hl
  · obtain ⟨rs, as, G, Φ, post, ep, wd, ha, φ, hq, hx, hl, hb⟩ := hsp vs H Q E h
    obtain ⟨tb, Φb, J, hΦ⟩ := hb cdv A outer s hr
    refine ⟨tb, J.pe, J.sem _ _ (hΦ post ep φ) G H _ (Gr.refl wd) ?_ _ ⟨?_, ?_, ?_, ?_⟩ ?_⟩
    · have e := en_args (rs := rs) (H0 := H) (H := H) ha (N.length - ps.length)
      unfold L2.start
      rw [show N.length - vs.length = N.length - ps.length by rw [ha.len, hl]]
      exact e
    · intro G' H' σ' s' g _ _ p
      obtain ⟨m, r, pm⟩ := hfall post G' V.non p rfl
      exact hq G' H' _ m g r pm
    · exact fun G' H' v b g _ r p => hq G' H' v b g r p
    · exact fun G' H' σ' l g _ _ p => p.elim
    · exact fun G' H' σ' l g _ _ p => p.elim
    · exact fun G' H' σ' cls d e g r p => hx G' H' cls d e g r p
/-- a def without a resource -/
theorem fn_ok {dvs : List V} {kws : List (Str × V)} (F : FunD K x qual params body scope dvs kws f fd) (S : FnScope N ps scope) {as : ι → List Sl} {Φ : ι → Pt β} {Φb : ι → Pt (Out Unit Empty β)} (hl : ∀ y, (as y).length = ps.length)
    (hb : ∀ (y : ι) (cdv : Value) (A : Around) (outer : List Env) (s : Shared) (H G : Hp) (E : XK), Room k (A.deeper (envOfC qual scope s.heap.objs.size f cdv)) →
      ∃ tb, JB (Cf P w K mg base N qual scope f cdv A outer s H E) (Cc rs0 G H E) body (as y ++ List.replicate (N.length - ps.length) .no) (fun _ : Unit => List.replicate N.length .no) (fun z : Empty => nomatch z) i tb (Φb y))
    (hΦ : ∀ y post ep, Φ y post ep → Φb y (endP False post) ep) : FnOk P w K mg base (L2.CX P w) (k + 1) f fd ps (spOf K rs0 as i Φ) := by
  refine fn_core (i := i) (lp := fun z : Empty => nomatch z) F S (fun _ => False) (fun _ _ _ h => h.elim) fun vs H Q E h => ?_
  obtain ⟨G, y, post, ep, wd, ha, φ, hq, hx⟩ := h
  refine ⟨rs0, as y, G, Φ y, post, ep, wd, ha, φ, hq, hx, hl y, fun cdv A outer s hr => ?_⟩
  obtain ⟨tb, J⟩ := hb y cdv A outer s H G E hr
  exact ⟨tb, _, J, hΦ y⟩
/-- a def that hands back None -/
theorem fn_okU {dvs : List V} {kws : List (Str × V)} (F : FunD K x qual params body scope dvs kws f fd) (S : FnScope N ps scope) {as : ι → List Sl} {Φ : ι → Pt Unit} {Φb : ι → Pt (Out Unit Empty Unit)} (hl : ∀ y, (as y).length = ps.length)
    (hb : ∀ (y : ι) (cdv : Value) (A : Around) (outer : List Env) (s : Shared) (H G : Hp) (E : XK), Room k (A.deeper (envOfC qual scope s.heap.objs.size f cdv)) →
      ∃ tb, JB (Cf P w K mg base N qual scope f cdv A outer s H E) (Cc rs0 G H E) body (as y ++ List.replicate (N.length - ps.length) .no) (fun _ : Unit => List.replicate N.length .no) (fun z : Empty => nomatch z) rpN tb (Φb y))
    (hΦ : ∀ y post ep, Φ y post ep → Φb y (endP (post ()) post) ep) : FnOk P w K mg base (L2.CX P w) (k + 1) f fd ps (spOf K rs0 as rpN Φ) := by
  refine fn_core (i := rpN) (lp := fun z : Empty => nomatch z) F S (fun post => post ()) (fun _ _ _ h e => ⟨(), e, h⟩) fun vs H Q E h => ?_
  obtain ⟨G, y, post, ep, wd, ha, φ, hq, hx⟩ := h
  refine ⟨rs0, as y, G, Φ y, post, ep, wd, ha, φ, hq, hx, hl y, fun cdv A outer s hr => ?_⟩
  obtain ⟨tb, J⟩ := hb y cdv A outer s H G E hr
  exact ⟨tb, _, J, hΦ y⟩
/-- a def that turns a resource -/
theorem fn_okR {dvs : List V} {kws : List (Str × V)} (F : FunD K x qual params body scope dvs kws f fd) (S : FnScope N ps scope) {rs : Addr → Rs} {as : Addr → ι → List Sl} {Φ : ι → Pt β} {Φb : ι → Pt (Out Unit Empty β)} (hl : ∀ q y, (as q y).length = ps.length)
    (hb : ∀ (q : Addr) (y : ι) (cdv : Value) (A : Around) (outer : List Env) (s : Shared) (H G : Hp) (E : XK), Room k (A.deeper (envOfC qual scope s.heap.objs.size f cdv)) →
      ∃ tb, JB (Cf P w K mg base N qual scope f cdv A outer s H E) (Cc (rs q) G H E) body (as q y ++ List.replicate (N.length - ps.length) .no) (fun _ : Unit => List.replicate N.length .no) (fun z : Empty => nomatch z) i tb (Φb y))
    (hΦ : ∀ y post ep, Φ y post ep → Φb y (endP False post) ep) : FnOk P w K mg base (L2.CX P w) (k + 1) f fd ps (spR K rs as i Φ) := by
  refine fn_core (i := i) (lp := fun z : Empty => nomatch z) F S (fun _ => False) (fun _ _ _ h => h.elim) fun vs H Q E h => ?_
  obtain ⟨q, G, y, post, ep, wd, ha, φ, hq, hx⟩ := h
  refine ⟨rs q, as q y, G, Φ y, post, ep, wd, ha, φ, hq, hx, hl q y, fun cdv A outer s hr => ?_⟩
  obtain ⟨tb, J⟩ := hb q y cdv A outer s H G E hr
  exact ⟨tb, _, J, hΦ y⟩
end

/-! ### instances -/
/-- reading a field -/
def FldW (K : Fg) {α β : Type} (iα : Rp α) (f : Str) (iβ : Rp β) (get : α → β) : Prop :=
  ∀ (G : Hp) (v : V) (m : α), iα.rp K G v m → ∃ a C dx fs u, v = .ref a ∧ G a = some (.ins C dx fs) ∧ Cls K C ∧ NoAttr K C f ∧ fs.lookup f = some u ∧ iβ.rp K G u (get m)
section
variable {X : Cx} {c : Cn} {ρ : List Sl} {α β : Type} {iα : Rp α} {iβ : Rp β} {e : Expr} {te : TE} {Φe : Pt α} {pos : Pos} {f : Str} {get : α → β}
theorem e_fld (hf : FldW X.K iα f iβ get) (he : JE X c e ρ iα te Φe) (hb : attributeBase e f X.env (eval e X.env) = eval e X.env := by rfl) : JE X c (.Attribute e f pos) ρ iβ (tFld X.K te f) (fun post ep => Φe (fun m => post (get m)) ep) := by
  refine ⟨pe_fld he.pe hb, fun post ep φ G H σ w E Q k hx => he.sem _ _ φ G H σ w E _ (fun G1 H1 v m g r p => ?_) hx⟩
  obtain ⟨a, C, dx, fs, u, rfl, h1, h2, h3, h4, h5⟩ := hf G1 v m r
  exact ⟨a, C, dx, fs, u, rfl, g.w.s _ _ h1, h2, h3, h4, k G1 H1 u _ g h5 p⟩
end
/-- what an __init__ promises: the new instance at x, then the arguments -/
def spI (K : Fg) (C : Addr) {ι δ : Type} (as : ι → List Sl) (i : Rp δ) (Φ : ι → Pt δ) : Sp := fun vs H Q E =>
  ∃ (G Hb : Hp) (x dx : Addr) (us : List V) (y : ι) (post : δ → Prop) (ep : Exn → Prop), vs = .ref x :: us ∧ H = upd (upd Hb dx (.own x)) x (.ins C dx []) ∧ Hb x = none ∧ Hb dx = none ∧ dx ≠ x ∧ Wd rs0 G Hb ∧ ArgsOk K G us (as y) ∧ Φ y post ep ∧
    (∀ G' H' m, Gr rs0 G Hb G' H' → i.rp K G' (.ref x) m → post m → Q .non H') ∧ ∀ G' H' cls d e, Gr rs0 G Hb G' H' → XRep K G' H' cls d e → ep e → E cls d H'
def tMakeS (C : Addr) (sp : Sp) (E : L2.St → XK) (t : TA) : TE := fun σ H Q => t σ H fun vs H1 => ∀ x dx, H1 x = none → H1 dx = none → dx ≠ x → sp (.ref x :: vs) (upd (upd H1 dx (.own x)) x (.ins C dx [])) (fun v H2 => v = .non ∧ Q (.ref x) H2) (E σ)
section
variable {X : Cx} {CX : CXT} {k : Nat} {f C : Addr} {fd : FuncData} {ps : List Str} {sp : Sp} {E : L2.St → XK} {x : Str} {p pos : Pos} {e : Expr} {es : List Expr} {t : TA}
theorem run_makeS {pins : List (Addr × Obj)} {σ : L2.St} {H : Hp} {s : Shared} {Q : VK} {us : List Value} {vs : List V} (M : Mk X.K C f) (F : FnOk X.prog X.w X.K X.mg X.base CX k f fd ps sp) (hr : Room (k + 1) X.A) (hb : Binds X.K fd ps [])
    (hx : PassesAt CX X σ (E σ)) (I : Inv X pins σ H s) (r : Vals vs us)
    (h : ∀ x dx, H x = none → H dx = none → dx ≠ x → sp (.ref x :: vs) (upd (upd H dx (.own x)) x (.ins C dx [])) (fun v H2 => v = .non ∧ Q (.ref x) H2) (E σ)) :
    wpAny (model X.prog X.w) X.A (call (.ref C) us) (EP X pins σ Q) X.xe s := by
  have hq := h (s.heap.objs.size + 1) s.heap.objs.size (I.hok.fresh (Nat.le_succ _)) (I.hok.fresh (Nat.le_refl _)) (Nat.ne_of_lt (Nat.lt_succ_self _))
  have I2 := Inv.made (C := C) I
  have r2 : Vals (V.ref (s.heap.objs.size + 1) :: vs) (Value.ref (s.heap.objs.size + 1) :: us) := .cons rfl r
  have hl : (Value.ref (s.heap.objs.size + 1) :: us ++ []).length = ps.length := by
    have e := r2.length
    rw [F.len _ _ _ _ hq] at e
    rw [List.append_nil]
    exact e.symm
  refine wpAny_call (make_map (f := f) I.kIn M.makes M.init (beq_iff_eq.mp M.fn) (codeAny_mono (F.run _ X.stack _ _ ⟨Value.ref (s.heap.objs.size + 1) :: us, []⟩ (Value.ref (s.heap.objs.size + 1) :: us) _ _ (E σ) (hr.make C us [])
    (I2.env0.make C us []) (by have := hb _ (Value.ref (s.heap.objs.size + 1) :: us) I2.kIn hl; rw [List.append_nil] at this; exact this) r2 hq) fun r s' hq' => ?_))
  cases r with
  | error e => exact hx pins _ _ e s' I2 hq'
  | ok fl =>
    cases fl with
    | ret u =>
      obtain ⟨v, H', I3, rv, ev, q3⟩ := I2.after hq'
      subst ev
      exact ⟨rv, ⟨V.ref (s.heap.objs.size + 1), H', I3, rfl, q3⟩⟩
    | next => exact False.elim hq'
    | brk => exact False.elim hq'
    | cont => exact False.elim hq'
theorem pe_makeS (M : Mk X.K C f) (F : FnOk X.prog X.w X.K X.mg X.base CX k f fd ps sp) (hr : Room (k + 1) X.A) (hm : X.mg x = some (.ref C)) (hb : Binds X.K fd ps []) (hx : ∀ σ, PassesAt CX X σ (E σ))
    (ha : PA X (e :: es) t) (hg : Gl X x := by rfl) (hdb : (x == ("__debug__" : Str)) = false := by decide) (he : starEach (e :: es) X.env = (false, eval e X.env) :: starEach es X.env := by rfl) (hpl : (backTo pos (starEach es X.env)).any (·.1) = false := by rfl) :
    PE X (.Call (.Name x p) (e :: es) [] pos) (tMakeS C sp E t) := by
  refine ⟨fun pins s σ H Q I h => ?_⟩
  refine wpAny_Call_Name_kw (ld_glob I hg hm ?_ hdb)
  refine PySem.W.callWith_K (h₀ := X.base) I.ok.mod.kin M.kp (thn (ha.run pos pins s σ H _ I h) fun us s1 ⟨vs, H1, I1, r, q⟩ => ⟨I1.kIn, ?_⟩) he hpl
  exact run_makeS M F hr hb (hx σ) I1 r q
variable {c : Cn} {ρ : List Sl} {δ ι : Type} {i : Rp δ} {as : ι → List Sl} {Φr : Pt ι} {Φ : ι → Pt δ}
theorem e_make (M : Mk X.K C f) (F : FnOk X.prog X.w X.K X.mg X.base (L2.CX X.prog X.w) k f fd ps (spI X.K C as i Φ)) (hr : Room (k + 1) X.A) (hm : X.mg x = some (.ref C)) (hb : Binds X.K fd ps []) (tk : Takes X c.wsh)
    (ha : JA X c (e :: es) ρ as t Φr) (hg : Gl X x := by rfl) (hdb : (x == ("__debug__" : Str)) = false := by decide) (he : starEach (e :: es) X.env = (false, eval e X.env) :: starEach es X.env := by rfl) (hpl : (backTo pos (starEach es X.env)).any (·.1) = false := by rfl) :
    JE X c (.Call (.Name x p) (e :: es) [] pos) ρ i (tMakeS C (spI X.K C as i Φ) (fun σ => L2.WE c.wsh σ) t) (fun post ep => Φr (fun y => Φ y post ep) ep) := by
  refine ⟨pe_makeS M F hr hm hb (fun σ => passAt tk σ) ha.pe hg hdb he hpl, fun post ep φ G H σ w E Q k hx => ha.sem _ _ φ G H σ w E _ (fun G1 H1 vs y g1 r1 φ1 => ?_) hx⟩
  intro q dx h1 h2 h3
  refine ⟨G1, H1, q, dx, vs, y, post, ep, rfl, rfl, h1, h2, h3, g1.w.to0, r1, φ1, fun G' H' m g r p => ⟨rfl, ?_⟩, fun G' H' cls d e g r p => ?_⟩
  · exact k G' H' _ m (g1.trans (g.lift g1.w)) r p
  · exact hx G' H' cls d e (g1.trans (g.lift g1.w)) r p
end
/-! ### an __init__ -/
abbrev Fp := Fg → Hp → V → Prop
/-- a field that holds m -/
def fld {α : Type} (i : Rp α) (m : α) : Fp := fun K G v => i.rp K G v m
theorem FlAll.names {K : Fg} {G : Hp} {vs : List (Str × V)} {ps : List (Str × Fp)} (h : FlAll K G vs ps) : vs.map (·.1) = ps.map (·.1) := by
  induction h with
  | nil => rfl
  | cons _ _ ih => rw [List.map_cons, List.map_cons, ih]
theorem putF_new {f : Str} {v : V} : ∀ {vs : List (Str × V)}, ¬ f ∈ vs.map (·.1) → putF f v vs = vs ++ [(f, v)]
  | [], _ => rfl
  | (g, x) :: r, h => by
    have h1 : ¬ g = f := fun e => h (by rw [← e]; exact List.mem_cons_self)
    have h2 : ¬ f ∈ r.map (·.1) := fun m => h (List.mem_cons_of_mem _ m)
    show (if g = f then (g, v) :: r else (g, x) :: putF f v r) = _
    rw [if_neg h1, putF_new h2]
    rfl
theorem FlAll.snoc {K : Fg} {G : Hp} {vs : List (Str × V)} {ps : List (Str × Fp)} {f : Str} {v : V} {p : Fp} (h : FlAll K G vs ps) (hp : ∀ G', Ex G G' → p K G' v) : FlAll K G (vs ++ [(f, v)]) (ps ++ [(f, p)]) := by
  induction h with
  | nil => exact .cons hp .nil
  | cons h _ ih => exact .cons h ih
theorem FlAll.at {K : Fg} {G : Hp} {f : Str} {p : Fp} : ∀ {vs : List (Str × V)} {ps : List (Str × Fp)} {pre post : List (Str × Fp)}, FlAll K G vs ps → ps = pre ++ (f, p) :: post → ¬ f ∈ pre.map (·.1) → ∃ v, vs.lookup f = some v ∧ p K G v
  | _, _, [], post, h, e, _ => by
    cases h with
    | nil => cases e
    | cons h t =>
      injection e with e1 e2
      injection e1 with e3 e4
      subst e3
      subst e4
      exact ⟨_, by simp [List.lookup], h _ (Ex.refl _)⟩
  | _, _, (g, q) :: pre, post, h, e, hn => by
    cases h with
    | nil => cases e
    | @cons f' v' p' vs' ps' h t =>
      have e2 : ps' = pre ++ (f, p) :: post := (List.cons.inj e).2
      have e3 : f' = g := congrArg Prod.fst (List.cons.inj e).1
      have h1 : ¬ f = f' := fun z => hn (by rw [z, e3]; exact List.mem_cons_self)
      obtain ⟨v, h2, h3⟩ := FlAll.at t e2 fun m => hn (List.mem_cons_of_mem _ m)
      refine ⟨v, ?_, h3⟩
      have hb : (f == f') = false := beq_eq_false_iff_ne.mpr h1
      show (match f == f' with | true => some v' | false => List.lookup f vs') = some v
      rw [hb]
      exact h2
section
variable {X : Cx} {c : Cn} {ρ : List Sl} {S L β α : Type} {out : S → List Sl} {lp : L → List Sl} {i : Rp β} {iα : Rp α} {pos : Pos} {rest : List Stmt} {tr : TS} {e : Expr} {te : TE} {Φe : Pt α}
/-- self.f = e, a new field -/
theorem b_fld [Nonempty α] {C : Addr} {fs : List (Str × Fp)} (j : Nat) {x f : Str} {px pa : Pos} {Φr : α → Pt (Out S L β)} {l : Addr} (hρ : ρ[j]? = some (.oi l C fs)) (hC : Cls X.K C) (hA : NoAttr X.K C f) (hn : ¬ f ∈ fs.map (·.1)) (hz : fs.length < 1000) (he : JE X c e ρ iα te Φe)
    (hr : ∀ m, JB X c rest (ρ.set j (.oi l C (fs ++ [(f, fld iα m)]))) out lp i tr (Φr m)) (hN : X.N[j]? = some x := by rfl) (hv : Vis X.env.scope x := by first | exact Or.inl rfl | exact Or.inr (Or.inl rfl) | exact Or.inr (Or.inr rfl)) (hd : (x == ("__debug__" : Str)) = false := by decide) (hcd : (x == ("__classdict__" : Str)) = false := by decide)
    (hs : swapsWith e (some (.Attribute (.Name x px) f pa)) pos.line X.env = pure false := by rfl) :
    JB X c (.Assign [.Attribute (.Name x px) f pa] e pos :: rest) ρ out lp i (tSeq (sFld X.K (tVar j) te f) tr) (fun post ep => Φe (fun m => Φr m post ep) ep) := by
  refine ⟨pss_cons (ps_fld (pe_var hN hv hd hcd) he.pe hs) (hr (Classical.choice inferInstance)).pe, fun post ep φ G H σ g E D k hx => ?_⟩
  refine he.sem _ _ φ G H σ g.w E _ (fun G1 H1 v m g1 r p => ?_) (hx.at g)
  obtain ⟨dx, vs, h1, h2, h3, h4, h5, h6, h7, h8, h9, h10⟩ := (E.up g1).ok j _ hρ
  have nm := h3.names
  have hnv : ¬ f ∈ vs.map (·.1) := by rw [nm]; exact hn
  have hlen : vs.length < 1000 := by
    have := congrArg List.length nm
    simp at this
    omega
  refine ⟨.ref l, h1, l, C, dx, vs, rfl, h2, hC, hA, hlen, ?_⟩
  rw [putF_new hnv]
  have gm := gr_mut (o := .ins C dx (vs ++ [(f, v)])) (g.trans g1) h4 h5 h6 (some_ne h2)
  have es : ∀ a, c.rs.S H1 a → upd H1 l (.ins C dx (vs ++ [(f, v)])) a = H1 a := fun a ha => upd_ne fun z => h6 (z ▸ ha)
  have S' := (c.rs.loc g1.w.i es).2
  have ndl : dx ≠ l := fun z => by
    rw [z, h2] at h7
    cases h7
  refine (hr m).sem _ _ p G1 _ σ gm ((E.up g1).mut g1.w hρ rfl h1 h2 h6 (fun a z => by cases z) (x := .oi l C (fs ++ [(f, fld iα m)])) ⟨dx, vs ++ [(f, v)], rfl, upd_same, h3.snoc fun G' e => Rp.mono e r, h4, h5, fun z => h6 ((S' l).mp z), by rw [upd_ne ndl]; exact h7, h8, h9, fun z => h10 ((S' dx).mp z)⟩) D (k.up g1.g) hx
/-- self.f within an __init__ -/
theorem e_fldO {C : Addr} {fs pre post : List (Str × Fp)} {m : α} (j : Nat) {x f : Str} {px pa : Pos} {l : Addr} (hρ : ρ[j]? = some (.oi l C fs)) (hC : Cls X.K C) (hA : NoAttr X.K C f) (hf : fs = pre ++ (f, fld iα m) :: post) (hn : ¬ f ∈ pre.map (·.1)) (hN : X.N[j]? = some x := by rfl) (hv : Vis X.env.scope x := by first | exact Or.inl rfl | exact Or.inr (Or.inl rfl) | exact Or.inr (Or.inr rfl))
    (hd : (x == ("__debug__" : Str)) = false := by decide) (hcd : (x == ("__classdict__" : Str)) = false := by decide) (hb : attributeBase (.Name x px) f X.env (eval (.Name x px) X.env) = eval (.Name x px) X.env := by rfl) :
    JE X c (.Attribute (.Name x px) f pa) ρ iα (tFld X.K (tVar j) f) (fun post _ => post m) := by
  refine ⟨pe_fld (pe_var hN hv hd hcd) hb, fun post ep φ G H σ w E Q k hx => ?_⟩
  obtain ⟨dx, vs, h1, h2, h3, h4, h5, h6, h7, h8, h9, h10⟩ := E.ok j _ hρ
  obtain ⟨v, e1, e2⟩ := h3.at hf hn
  exact ⟨.ref l, h1, l, C, dx, vs, v, rfl, h2, hC, hA, e1, k G H v m (Gr.refl w) e2 φ⟩
end
section
variable {P : Program} {w : World} {K : Fg} {mg : Str → Option Value} {base : Heap} {x qual : Str} {params : Arguments} {body : List Stmt} {scope : Scope} {f : Addr} {fd : FuncData} {N ps : List Str} {k : Nat} {ι δ S : Type} {i : Rp δ}
/-- what is wanted of an __init__'s ends -/
def endI {S L : Type} (mk : S → δ) (post : δ → Prop) : Out S L Unit → Prop
  | .nx s => post (mk s)
  | _ => False
theorem fn_okI {dvs : List V} {kws : List (Str × V)} (F : FunD K x qual params body scope dvs kws f fd) (Sc : FnScope N ps scope) {C : Addr} {as : ι → List Sl} {Φ : ι → Pt δ} {Φb : ι → Pt (Out S Empty Unit)} {fs : S → List (Str × Fp)} {tail : List Sl} {mk : S → δ}
    (hps : ∀ y, (as y).length + 1 = ps.length)
    (hrep : ∀ (s : S) (G : Hp) (q dx : Addr) (vs : List (Str × V)), G q = some (.ins C dx vs) → FlAll K G vs (fs s) → i.rp K G (.ref q) (mk s))
    (hb : ∀ (y : ι) (q : Addr) (cdv : Value) (A : Around) (outer : List Env) (s : Shared) (H Hb G : Hp) (E : XK), Room k (A.deeper (envOfC qual scope s.heap.objs.size f cdv)) →
      ∃ tb, JB (Cf P w K mg base N qual scope f cdv A outer s H E) (Cc rs0 G Hb E) body (.oi q C [] :: as y ++ List.replicate (N.length - ps.length) .no) (fun s : S => .oi q C (fs s) :: tail) (fun z : Empty => nomatch z) rpN tb (Φb y))
    (hΦ : ∀ y post ep, Φ y post ep → Φb y (endI mk post) ep) : FnOk P w K mg base (L2.CX P w) (k + 1) f fd ps (spI K C as i Φ) := by
  refine F.ok Sc (fun vs H Q E h => ?_) (fun cdv A outer s H vs Q E hr h => ?_)
  · obtain ⟨G, Hb, q, dx, us, y, post, ep, rfl, _, _, _, _, _, ha, _⟩ := h
    show us.length + 1 = _
    rw [ha.len]
    exact hps y
  · obtain ⟨G, Hb, q, dx, us, y, post, ep, rfl, eH, h1, h2, h3, wd, ha, φ, hq, hx⟩ := h
    obtain ⟨tb, J⟩ := hb y q cdv A outer s H Hb G E hr
    have hqd : q ≠ dx := fun z => h3 z.symm
    have fr : ∀ a, Hb a = none → G a = none := fun a e => by
      cases e2 : G a with
      | none => rfl
      | some u =>
        have := wd.s a u e2
        rw [e] at this
        cases this
    have g1 := gr_newH (o := .own q) wd h2
    have hq1 : upd Hb dx (.own q) q = none := by rw [upd_ne hqd]; exact h1
    have g2 := gr_newH (o := .ins C dx []) g1.w hq1
    have g12 := g1.trans g2
    rw [← eH] at g12
    have hHq : H q = some (.ins C dx []) := by rw [eH]; exact upd_same
    have hHd : H dx = some (.own q) := by rw [eH, upd_ne h3]; exact upd_same
    refine ⟨tb, J.pe, J.sem _ _ (hΦ y post ep φ) G H _ g12 ?_ _ ⟨?_, ?_, ?_, ?_⟩ ?_⟩
    · have e := en_args (rs := rs0) (H0 := Hb) (H := H) ha (N.length - ps.length)
      have hst : L2.start N (V.ref q :: us) = some (.ref q) :: (us.map some ++ List.replicate (N.length - ps.length) none) := by
        unfold L2.start
        have : N.length - (V.ref q :: us).length = N.length - ps.length := by
          show N.length - (us.length + 1) = _
          rw [ha.len, hps y]
        rw [this]
        rfl
      rw [hst]
      refine ⟨by simpa using e.len, fun n z ez => ?_, fun n r z1 z2 l ne e1 e2 o1 o2 s1 s2 => ?_⟩
      · cases n with
        | zero =>
          have ez : some (Sl.oi q C []) = some z := ez
          cases ez
          exact ⟨dx, [], rfl, hHq, .nil, h1, fr q h1, fun z => z.elim, hHd, h2, fr dx h2, fun z => z.elim⟩
        | succ n => exact e.ok n z ez
      · have noOwn : ∀ (n : Nat) (z : Sl), (as y ++ List.replicate (N.length - ps.length) Sl.no)[n]? = some z → z.own = true → False := by
          intro n z ez oz
          have all : ∀ (vs : List V) (as : List Sl), ArgsOk K G vs as → ∀ x ∈ as, x.own = false := by
            intro vs as h
            induction h with
            | nil => intro x hx; cases hx
            | cons h _ ih =>
              intro x hx
              rcases List.mem_cons.mp hx with rfl | hx
              · cases h <;> rfl
              · exact ih x hx
          rcases List.mem_append.mp (List.mem_of_getElem? ez) with q | q
          · rw [all us _ ha z q] at oz
            cases oz
          · rw [List.eq_of_mem_replicate q] at oz
            cases oz
        cases n with
        | succ n => exact noOwn n z1 e1 o1
        | zero => cases r with
          | zero => exact ne rfl
          | succ r => exact noOwn r z2 e2 o2
    · intro G' H' σ' s' g _ E' p
      obtain ⟨dx', vs, k1, k2, k3, k4, k5, k6, k7, k8, k9, k10⟩ := E'.ok 0 _ rfl
      have gf := gr_frz g k4 k5 k6 k2
      exact hq _ H' (mk s') gf (hrep s' _ q dx' vs upd_same (k3.mono (Ex.new k5))) p
    · exact fun G' H' v b g _ r p => p.elim
    · exact fun G' H' σ' l g _ _ p => p.elim
    · exact fun G' H' σ' l g _ _ p => p.elim
    · exact fun G' H' σ' cls d e g r p => hx G' H' cls d e g r p
end
end Ty

set_option Elab.async false
set_option linter.all false
set_option maxRecDepth 100000
set_option maxHeartbeats 4000000
set_option autoImplicit false
/-! Ty, part F: more rules -/
namespace Ty
open PySem PySem.Spec L2

section
variable {X : Cx} {c : Cn} {ρ : List Sl} {α β γ : Type} {i : Rp α}
theorem i_lst {tg e : Expr} {te : TE} {Φ : Pt (List α)} (he : JE X c e ρ (rpL (i := i)) te Φ) : JI X c tg e ρ i (iList X.K te) (fun post ep => Φ (fun xs => xs.length ≤ sizeLine → post xs) ep) := i_list he (pi_list he.pe)
theorem i_tpl {tg e : Expr} {te : TE} {Φ : Pt (Tu α)} (he : JE X c e ρ (rpT (i := i)) te Φ) : JI X c tg e ρ i (iTup X.K te) (fun post ep => Φ (fun xs => xs.l.length ≤ sizeLine → post xs.l) ep) := i_tup he (pi_tup he.pe)
theorem i_rng1 {tg a : Expr} {p pos : Pos} {t : TA} {Φ : Pt (Int × Unit)} (hg : Gl X "range") (hm : X.mg "range" = none) (ha : JA X c [a] ρ (aCons rpI aNil) t Φ) (hs : starEach [a] X.env = [(false, eval a X.env)] := by rfl) :
    JI X c tg (.Call (.Name "range" p) [a] [] pos) ρ rpI (iRng1 t) (fun post ep => Φ (fun n => (-(2 ^ 62) ≤ n.1 ∧ n.1 < 2 ^ 62) ∧ post (rangeI 0 n.1.toNat)) ep) := i_range1 (es := [a]) (x := "") (p := pos) (pos := pos) ha (pi_range1 hg hm ha.pe hs)
theorem i_rng2 {tg a b : Expr} {p pos : Pos} {t : TA} {Φ : Pt (Int × Int × Unit)} (hg : Gl X "range") (hm : X.mg "range" = none) (ha : JA X c [a, b] ρ (aCons rpI (aCons rpI aNil)) t Φ) (hs : starEach [a, b] X.env = [(false, eval a X.env), (false, eval b X.env)] := by rfl) (hs2 : starEach [b] X.env = [(false, eval b X.env)] := by rfl) :
    JI X c tg (.Call (.Name "range" p) [a, b] [] pos) ρ rpI (iRng2 t) (fun post ep => Φ (fun n => (-(2 ^ 62) ≤ n.1 ∧ n.1 < 2 ^ 62 ∧ -(2 ^ 62) ≤ n.2.1 ∧ n.2.1 < 2 ^ 62) ∧ post (rangeI n.1 (n.2.1 - n.1).toNat)) ep) := i_range2 (es := [a, b]) (x := "") (p := pos) (pos := pos) ha (pi_range2 hg hm ha.pe hs hs2)

/-! ### slices -/
structure JO (X : Cx) (c : Cn) (e : Option Expr) (ρ : List Sl) (t : TO) (Φ : Pt (Option Int)) : Prop where
  pe : PO X e t
  sem : ∀ post ep, Φ post ep → ∀ G H σ, Wd c.rs G H → En X.K c.rs c.H0 G H σ ρ → ∀ Q : Option Int → Hp → Prop, (∀ G' H' m, Gr c.rs G H G' H' → post m → Q m H') → XOk X c G H σ ep → t σ H Q
theorem o_none : JO X c none ρ tNoPart (fun post _ => post none) := ⟨po_none, fun post ep φ G H σ w E Q k hx => k G H none (Gr.refl w) φ⟩
theorem o_some {e : Expr} {te : TE} {Φ : Pt Int} (he : JE X c e ρ rpI te Φ) : JO X c (some e) ρ (tPart te) (fun post ep => Φ (fun n => post (some n)) ep) :=
  ⟨po_some he.pe, fun post ep φ G H σ w E Q k hx => he.sem _ _ φ G H σ w E _ (fun G1 H1 v m g r p => ⟨m, r, k G1 H1 (some m) g p⟩) hx⟩
structure SlW (X : Cx) {α γ : Type} (iα : Rp α) (iγ : Rp γ) (r : V → Option Int → Option Int → Hp → VK → Prop) (Φ : α → Option Int → Option Int → Pt γ) : Prop where
  pe : SlR X r
  sem : ∀ (rs : Rs) (G H : Hp) (x : V) (a : α) (lo hi : Option Int) (post : γ → Prop) (ep : Exn → Prop) (Q : VK), Wd rs G H → iα.rp X.K G x a → Φ a lo hi post ep → (∀ G' H' z m, Gr rs G H G' H' → iγ.rp X.K G' z m → post m → Q z H') → r x lo hi H Q
theorem e_sl {iα : Rp α} {iγ : Rp γ} {r : V → Option Int → Option Int → Hp → VK → Prop} {Φ : α → Option Int → Option Int → Pt γ} {e : Expr} {lo hi : Option Expr} {te : TE} {tl th : TO} {Φa : Pt α} {Φl Φh : Pt (Option Int)} {p2 pos : Pos} (hs : SlW X iα iγ r Φ) (he : JE X c e ρ iα te Φa) (hl : JO X c lo ρ tl Φl) (hh : JO X c hi ρ th Φh) :
    JE X c (.Subscript e (.Slice lo hi none p2) pos) ρ iγ (tSl r te tl th) (fun post ep => Φa (fun a => Φl (fun l => Φh (fun h => Φ a l h post ep) ep) ep) ep) := by
  refine ⟨pe_slice hs.pe he.pe hl.pe hh.pe, fun post ep φ G H σ w E Q k hx => ?_⟩
  refine he.sem _ _ φ G H σ w E _ (fun G1 H1 v m g r φ1 => ?_) hx
  refine hl.sem _ _ φ1 G1 H1 σ g.w (E.up g) _ (fun G2 H2 m2 g2 φ2 => ?_) (hx.up g)
  refine hh.sem _ _ φ2 G2 H2 σ g2.w (E.up (g.trans g2)) _ (fun G3 H3 m3 g3 φ3 => ?_) (hx.up (g.trans g2))
  exact hs.sem _ _ _ _ _ _ _ _ _ _ g3.w (Rp.mono (g2.g.trans g3.g) r) φ3 fun G4 H4 z m g4 r4 p => k G4 H4 z m (((g.trans g2).trans g3).trans g4) r4 p
/-- a list's cut -/
def cutL {α : Type} (xs : List α) (lo hi : Option Int) : List α := (xs.drop (HT.sIx xs.length 0 lo)).take (HT.sIx xs.length xs.length hi - HT.sIx xs.length 0 lo)
theorem RpAll.drop {K : Fg} {G : Hp} : ∀ {vs : List V} {ms : List α} (n : Nat), RpAll i K G vs ms → RpAll i K G (vs.drop n) (ms.drop n)
  | _, _, 0, h => h
  | _, _, _ + 1, .nil => .nil
  | _, _, n + 1, .cons _ t => RpAll.drop n t
theorem RpAll.take {K : Fg} {G : Hp} : ∀ {vs : List V} {ms : List α} (n : Nat), RpAll i K G vs ms → RpAll i K G (vs.take n) (ms.take n)
  | _, _, 0, h => .nil
  | _, _, _ + 1, .nil => .nil
  | _, _, n + 1, .cons h t => .cons h (RpAll.take n t)
theorem RpAll.cut {K : Fg} {G : Hp} {vs : List V} {ms : List α} (h : RpAll i K G vs ms) (lo hi : Option Int) : RpAll i K G (cutV vs lo hi) (cutL ms lo hi) := by
  have e := h.length
  unfold cutV cutL
  rw [e]
  exact (h.drop _).take _
theorem sl_L : SlW X (rpL (i := i)) (rpL (i := i)) (rSlL X.K) (fun xs lo hi post _ => post (cutL xs lo hi)) :=
  ⟨sl_list, fun rs G H x a lo hi post ep Q w r φ k => by
    obtain ⟨l, vs, rfl, h1, h2, h3⟩ := r
    refine ⟨l, vs, rfl, SqL.of (w.s _ _ h1), fun p hp => ?_⟩
    have g := gr_new (o := .lst (cutV vs lo hi)) w hp
    exact k _ _ _ _ g ⟨p, _, rfl, upd_same, (h2.cut lo hi).mono g.g, Nat.le_trans (cutV_length _ _ _) h3⟩ φ⟩
theorem sl_S : SlW X rpS rpS rSlS (fun z lo hi post _ => z.length ≤ sizeLine ∧ post (cutS z lo hi)) :=
  ⟨sl_str, fun rs G H x a lo hi post ep Q w r φ k => ⟨a, r, φ.1, k G H _ _ (Gr.refl w) rfl φ.2⟩⟩
/-- a tuple's cut that is not the whole -/
theorem sl_T : SlW X (rpT (i := i)) (rpT (i := i)) (rSlT X.K) (fun xs lo hi post _ => ¬ (HT.sIx xs.l.length 0 lo = 0 ∧ HT.sIx xs.l.length xs.l.length hi = xs.l.length) ∧ post ⟨cutL xs.l lo hi⟩) :=
  ⟨sl_tup, fun rs G H x a lo hi post ep Q w r φ k => by
    obtain ⟨l, vs, rfl, h1, h2, h3⟩ := r
    have e := h2.length
    refine ⟨l, vs, rfl, w.s.st h1, by rw [e]; exact φ.1, fun p hp => ?_⟩
    have g := gr_new (o := .tup (cutV vs lo hi)) w hp
    exact k _ _ _ _ g ⟨p, _, rfl, SqT.of upd_same, (h2.cut lo hi).mono g.g, Nat.le_trans (cutV_length _ _ _) h3⟩ φ.2⟩

/-! ### in -/
class Flat (α : Type) [BEq α] (i : Rp α) where
  out : ∀ {K : Fg} {G : Hp} {x y : V} {a b : α}, i.rp K G x a → i.rp K G y b → flatV x = true ∧ eqV x y = (a == b)
instance : Flat Int rpI := ⟨fun {K G x y a b} h1 h2 => by
  obtain rfl : x = .int a := h1
  obtain rfl : y = .int b := h2
  exact ⟨rfl, rfl⟩⟩
instance : Flat Bool rpB := ⟨fun {K G x y a b} h1 h2 => by
  obtain rfl : x = .bl a := h1
  obtain rfl : y = .bl b := h2
  exact ⟨rfl, rfl⟩⟩
instance : Flat Str rpS := ⟨fun {K G x y a b} h1 h2 => by
  obtain rfl : x = .str a := h1
  obtain rfl : y = .str b := h2
  exact ⟨rfl, rfl⟩⟩
theorem flat_all [BEq α] [f : Flat α i] {K : Fg} {G : Hp} {x : V} {a : α} (hx : i.rp K G x a) : ∀ {vs : List V} {ms : List α}, RpAll i K G vs ms → vs.all flatV = true ∧ inV x vs = ms.any (fun m => m == a)
  | _, _, .nil => ⟨rfl, rfl⟩
  | _, _, .cons h t => by
    obtain ⟨h1, h2⟩ := f.out h hx
    obtain ⟨h3, h4⟩ := flat_all hx t
    refine ⟨by rw [List.all_cons, h1, h3]; rfl, ?_⟩
    unfold inV at h4 ⊢
    rw [List.any_cons, List.any_cons, h4, h2]
theorem in_L [BEq α] [f : Flat α i] : OpW X (compareOp .In) i (rpL (i := i)) rpB (rIn X.K false) (fun a xs post _ => post (xs.any fun m => m == a)) :=
  ⟨op_in_seq, fun rs G H x y a b post ep Q w hx hy φ k => by
    obtain ⟨l, vs, rfl, h1, h2, h3⟩ := hy
    obtain ⟨e1, e2⟩ := flat_all hx h2
    exact ⟨l, vs, rfl, .inl (SqL.of (w.s _ _ h1)), (f.out hx hx).1, e1, k G H _ _ (Gr.refl w) (by show V.bl _ = V.bl _; rw [e2]; rfl) φ⟩⟩
theorem in_T [BEq α] [f : Flat α i] : OpW X (compareOp .In) i (rpT (i := i)) rpB (rIn X.K false) (fun a xs post _ => post (xs.l.any fun m => m == a)) :=
  ⟨op_in_seq, fun rs G H x y a b post ep Q w hx hy φ k => by
    obtain ⟨l, vs, rfl, h1, h2, h3⟩ := hy
    obtain ⟨e1, e2⟩ := flat_all hx h2
    exact ⟨l, vs, rfl, .inr (w.s.st h1), (f.out hx hx).1, e1, k G H _ _ (Gr.refl w) (by show V.bl _ = V.bl _; rw [e2]; rfl) φ⟩⟩
theorem nin_L [BEq α] [f : Flat α i] : OpW X (compareOp .NotIn) i (rpL (i := i)) rpB (rIn X.K true) (fun a xs post _ => post (!xs.any fun m => m == a)) :=
  ⟨op_notIn_seq, fun rs G H x y a b post ep Q w hx hy φ k => by
    obtain ⟨l, vs, rfl, h1, h2, h3⟩ := hy
    obtain ⟨e1, e2⟩ := flat_all hx h2
    exact ⟨l, vs, rfl, .inl (SqL.of (w.s _ _ h1)), (f.out hx hx).1, e1, k G H _ _ (Gr.refl w) (by show V.bl _ = V.bl _; rw [e2]; rfl) φ⟩⟩
theorem nin_T [BEq α] [f : Flat α i] : OpW X (compareOp .NotIn) i (rpT (i := i)) rpB (rIn X.K true) (fun a xs post _ => post (!xs.l.any fun m => m == a)) :=
  ⟨op_notIn_seq, fun rs G H x y a b post ep Q w hx hy φ k => by
    obtain ⟨l, vs, rfl, h1, h2, h3⟩ := hy
    obtain ⟨e1, e2⟩ := flat_all hx h2
    exact ⟨l, vs, rfl, .inr (w.s.st h1), (f.out hx hx).1, e1, k G H _ _ (Gr.refl w) (by show V.bl _ = V.bl _; rw [e2]; rfl) φ⟩⟩

/-! ### data: == -/
class Dat (α : Type) (i : Rp α) where
  enc : α → PyData
  ok : α → Prop
  dep : Nat
  dp : ∀ {K : Fg} {G : Hp} {v : V} {m : α}, i.rp K G v m → Dp K G v (enc m)
  lay : ∀ {m : α}, ok m → PyData.canLay0 (enc m) = true
  hdep : ∀ m : α, PyData.depth (enc m) ≤ dep
/-- == of such data is = -/
class DatE (α : Type) [DecidableEq α] (i : Rp α) [d : Dat α i] : Prop where
  eqv : ∀ a b : α, PyData.eqv (d.enc a) (d.enc b) = decide (a = b)
instance : Dat Int rpI := ⟨fun n => .int n, fun _ => True, 0, fun {K G v m} h => by
  obtain rfl : v = .int m := h
  exact .int m, fun _ => rfl, fun m => by simp [PyData.depth]⟩
instance : Dat Bool rpB := ⟨fun n => .bool n, fun _ => True, 0, fun {K G v m} h => by
  obtain rfl : v = .bl m := h
  exact .bl m, fun _ => rfl, fun m => by simp [PyData.depth]⟩
instance : Dat Str rpS := ⟨fun n => .str n, fun s => PyData.strOk s = true, 0, fun {K G v m} h => by
  obtain rfl : v = .str m := h
  exact .str m, fun h => by simpa [PyData.canLay0] using h, fun m => by simp [PyData.depth]⟩
end
theorem dpAll {α : Type} {i : Rp α} [d : Dat α i] {K : Fg} {G : Hp} : ∀ {vs : List V} {ms : List α}, RpAll i K G vs ms → DpAll K G vs (ms.map d.enc)
  | _, _, .nil => .nil
  | _, _, .cons h t => .cons (d.dp h) (dpAll t)
theorem layAll {α : Type} {i : Rp α} [d : Dat α i] : ∀ {ms : List α}, (∀ m ∈ ms, d.ok m) → PyData.canLayAll0 (ms.map d.enc) = true
  | [], _ => by simp [PyData.canLayAll0]
  | m :: ms, h => by
    rw [List.map_cons]
    simp only [PyData.canLayAll0, Bool.and_eq_true]
    exact ⟨d.lay (h m List.mem_cons_self), layAll fun x hx => h x (List.mem_cons_of_mem _ hx)⟩
theorem depAll {α : Type} {i : Rp α} [d : Dat α i] : ∀ ms : List α, PyData.depthAll (ms.map d.enc) ≤ d.dep
  | [] => by simp [PyData.depthAll]
  | m :: ms => by
    rw [List.map_cons]
    simp only [PyData.depthAll]
    exact Nat.max_le.mpr ⟨d.hdep m, depAll ms⟩
theorem eqvAll {α : Type} [DecidableEq α] {i : Rp α} [d : Dat α i] [e : DatE α i] : ∀ as bs : List α, PyData.eqvAll (as.map d.enc) (bs.map d.enc) = decide (as = bs)
  | [], [] => by simp [PyData.eqvAll]
  | [], b :: bs => by simp [PyData.eqvAll]
  | a :: as, [] => by simp [PyData.eqvAll]
  | a :: as, b :: bs => by
    rw [List.map_cons, List.map_cons]
    simp only [PyData.eqvAll]
    rw [e.eqv, eqvAll as bs]
    by_cases h1 : a = b
    · by_cases h2 : as = bs
      · simp [h1, h2]
      · simp [h1, h2]
    · simp [h1]
instance datL {α : Type} {i : Rp α} [d : Dat α i] : Dat (List α) (rpL (i := i)) := ⟨fun xs => .list (xs.map d.enc), fun xs => ∀ m ∈ xs, d.ok m, d.dep + 1, fun {K G v m} h => by
  obtain ⟨a, vs, rfl, h1, h2, _⟩ := h
  exact .lst (SqL.of h1) (dpAll h2), fun h => by simpa only [PyData.canLay0] using layAll h, fun m => by
  simp only [PyData.depth]
  exact Nat.succ_le_succ (depAll m)⟩
instance datT {α : Type} {i : Rp α} [d : Dat α i] : Dat (Tu α) (rpT (i := i)) := ⟨fun xs => .tuple (xs.l.map d.enc), fun xs => ∀ m ∈ xs.l, d.ok m, d.dep + 1, fun {K G v m} h => by
  obtain ⟨a, vs, rfl, h1, h2, _⟩ := h
  exact .tup h1 (dpAll h2), fun h => by simpa only [PyData.canLay0] using layAll h, fun m => by
  simp only [PyData.depth]
  exact Nat.succ_le_succ (depAll m.l)⟩
instance dat2 {α β : Type} {i : Rp α} {j : Rp β} [d : Dat α i] [e : Dat β j] : Dat (α × β) (rp2 (i := i) (j := j)) := ⟨fun p => .tuple [d.enc p.1, e.enc p.2], fun p => d.ok p.1 ∧ e.ok p.2, max d.dep e.dep + 1, fun {K G v m} h => by
  obtain ⟨a, x, y, rfl, h1, h2, h3⟩ := h
  exact .tup h1 (.cons (d.dp h2) (.cons (e.dp h3) .nil)), fun {m} h => by
  simp only [PyData.canLay0, PyData.canLayAll0, d.lay h.1, e.lay h.2, Bool.and_self], fun m => by
  simp only [PyData.depth, PyData.depthAll]
  have := d.hdep m.1
  have := e.hdep m.2
  omega⟩
instance : DatE Int rpI := ⟨fun a b => by
  show PyData.eqv (.int a) (.int b) = _
  simp [PyData.eqv, Bool.beq_eq_decide_eq]⟩
instance : DatE Bool rpB := ⟨fun a b => by
  show PyData.eqv (.bool a) (.bool b) = _
  simp [PyData.eqv, Bool.beq_eq_decide_eq]⟩
instance : DatE Str rpS := ⟨fun a b => by
  show PyData.eqv (.str a) (.str b) = _
  simp [PyData.eqv, Bool.beq_eq_decide_eq]⟩
instance {α : Type} [DecidableEq α] {i : Rp α} [d : Dat α i] [e : DatE α i] : DatE (List α) (rpL (i := i)) := ⟨fun a b => by
  show PyData.eqv (.list _) (.list _) = _
  simp only [PyData.eqv]
  exact eqvAll a b⟩
instance {α : Type} [DecidableEq α] : DecidableEq (Tu α) := fun a b => match a, b with
  | ⟨x⟩, ⟨y⟩ => if h : x = y then isTrue (by rw [h]) else isFalse fun q => h (Tu.mk.inj q)
instance {α : Type} [DecidableEq α] {i : Rp α} [d : Dat α i] [e : DatE α i] : DatE (Tu α) (rpT (i := i)) := ⟨fun a b => by
  show PyData.eqv (.tuple _) (.tuple _) = _
  simp only [PyData.eqv]
  rw [eqvAll]
  obtain ⟨x⟩ := a
  obtain ⟨y⟩ := b
  by_cases h : x = y <;> simp [h]⟩
instance {α β : Type} [DecidableEq α] [DecidableEq β] {i : Rp α} {j : Rp β} [d : Dat α i] [e : Dat β j] [d' : DatE α i] [e' : DatE β j] : DatE (α × β) (rp2 (i := i) (j := j)) := ⟨fun a b => by
  show PyData.eqv (.tuple [_, _]) (.tuple [_, _]) = _
  simp only [PyData.eqv, PyData.eqvAll, d'.eqv, e'.eqv]
  obtain ⟨x, y⟩ := a
  obtain ⟨z, u⟩ := b
  by_cases h1 : x = z <;> by_cases h2 : y = u <;> simp [h1, h2]⟩
section
variable {X : Cx} {α : Type} {i : Rp α}
theorem shaped_of [d : Dat α i] {m : α} (h : d.ok m) (hd : d.dep ≤ 64) : SeqAt.shaped (d.enc m) = true := by
  unfold SeqAt.shaped
  rw [d.lay h, decide_eq_true (Nat.le_trans (d.hdep m) hd)]
  rfl
theorem eq_D [DecidableEq α] [d : Dat α i] [e : DatE α i] (hu : X.A.units + 64 < cLine) (hd : d.dep ≤ 64 := by decide) : OpW X (compareOp .Eq) i i rpB (rEqD X.K) (fun a b post _ => d.ok a ∧ d.ok b ∧ post (decide (a = b))) :=
  ⟨op_eqD hu, fun rs G H x y a b post ep Q w hx hy φ k => by
    refine ⟨d.enc a, d.enc b, ?_, ?_, shaped_of φ.1 hd, shaped_of φ.2.1 hd, k G H _ _ (Gr.refl w) (by rw [e.eqv]; rfl) φ.2.2⟩
    · exact d.dp (Rp.mono w.s hx)
    · exact d.dp (Rp.mono w.s hy)⟩
theorem ne_D [DecidableEq α] [d : Dat α i] [e : DatE α i] (hu : X.A.units + 64 < cLine) (hd : d.dep ≤ 64 := by decide) : OpW X (compareOp .NotEq) i i rpB (rNeD X.K) (fun a b post _ => d.ok a ∧ d.ok b ∧ post (!decide (a = b))) :=
  ⟨op_neD hu, fun rs G H x y a b post ep Q w hx hy φ k => by
    refine ⟨d.enc a, d.enc b, ?_, ?_, shaped_of φ.1 hd, shaped_of φ.2.1 hd, k G H _ _ (Gr.refl w) (by rw [e.eqv]; rfl) φ.2.2⟩
    · exact d.dp (Rp.mono w.s hx)
    · exact d.dp (Rp.mono w.s hy)⟩
/-! ### built-ins over lists -/
theorem mapI {K : Fg} {G : Hp} : ∀ {vs : List V} {ms : List Int}, RpAll rpI K G vs ms → vs = ms.map V.int
  | _, _, .nil => rfl
  | _, _, .cons h t => by
    obtain rfl := h
    rw [mapI t]
    rfl
theorem mapB {K : Fg} {G : Hp} : ∀ {vs : List V} {ms : List Bool}, RpAll rpB K G vs ms → vs = ms.map V.bl
  | _, _, .nil => rfl
  | _, _, .cons h t => by
    obtain rfl := h
    rw [mapB t]
    rfl
theorem max_L (hc : X.calm = true) : CallW X (.builtin "max") (aCons (rpL (i := rpI)) aNil) rpI (rMax X.K) (fun x post _ => 0 < x.1.length ∧ ∀ m, m ∈ x.1 → (∀ y ∈ x.1, y ≤ m) → post m) :=
  ⟨cr_max hc, fun rs G H vs x post ep Q w ha φ k => by
    obtain ⟨v, rfl, l, us, rfl, h1, h2, h3⟩ := one1 ha
    have e := mapI h2
    subst e
    exact ⟨l, x.1, rfl, SqL.of (w.s _ _ h1), φ.1, fun m hm hy => k G H _ _ (Gr.refl w) rfl (φ.2 m hm hy)⟩⟩
theorem min_L (hc : X.calm = true) : CallW X (.builtin "min") (aCons (rpL (i := rpI)) aNil) rpI (rMin X.K) (fun x post _ => 0 < x.1.length ∧ ∀ m, m ∈ x.1 → (∀ y ∈ x.1, m ≤ y) → post m) :=
  ⟨cr_min hc, fun rs G H vs x post ep Q w ha φ k => by
    obtain ⟨v, rfl, l, us, rfl, h1, h2, h3⟩ := one1 ha
    have e := mapI h2
    subst e
    exact ⟨l, x.1, rfl, SqL.of (w.s _ _ h1), φ.1, fun m hm hy => k G H _ _ (Gr.refl w) rfl (φ.2 m hm hy)⟩⟩
theorem sum_L (hc : X.calm = true) : CallW X (.builtin "sum") (aCons (rpL (i := rpI)) aNil) rpI (rSum X.K) (fun x post _ => post x.1.sum) :=
  ⟨cr_sum hc, fun rs G H vs x post ep Q w ha φ k => by
    obtain ⟨v, rfl, l, us, rfl, h1, h2, h3⟩ := one1 ha
    have e := mapI h2
    subst e
    exact ⟨l, x.1, rfl, SqL.of (w.s _ _ h1), k G H _ _ (Gr.refl w) rfl φ⟩⟩
theorem all_L (hc : X.calm = true) : CallW X (.builtin "all") (aCons (rpL (i := rpB)) aNil) rpB (rAll X.K) (fun x post _ => post (x.1.all id)) :=
  ⟨cr_all hc, fun rs G H vs x post ep Q w ha φ k => by
    obtain ⟨v, rfl, l, us, rfl, h1, h2, h3⟩ := one1 ha
    have e := mapB h2
    subst e
    exact ⟨l, x.1, rfl, SqL.of (w.s _ _ h1), k G H _ _ (Gr.refl w) rfl φ⟩⟩
theorem any_L (hc : X.calm = true) : CallW X (.builtin "any") (aCons (rpL (i := rpB)) aNil) rpB (rAny X.K) (fun x post _ => post (x.1.any id)) :=
  ⟨cr_any hc, fun rs G H vs x post ep Q w ha φ k => by
    obtain ⟨v, rfl, l, us, rfl, h1, h2, h3⟩ := one1 ha
    have e := mapB h2
    subst e
    exact ⟨l, x.1, rfl, SqL.of (w.s _ _ h1), k G H _ _ (Gr.refl w) rfl φ⟩⟩
abbrev rListOf (K : Fg) : List V → Hp → VK → Prop := fun xs H Q => ∃ p ys, xs = [.ref p] ∧ (SqL K H p ys ∨ SqT K H p ys) ∧ ∀ l, H l = none → Q (.ref l) (upd H l (.lst ys))
abbrev rTupOf (K : Fg) : List V → Hp → VK → Prop := fun xs H Q => ∃ p ys, xs = [.ref p] ∧ ((SqL K H p ys ∧ ∀ l, H l = none → Q (.ref l) (upd H l (.tup ys))) ∨ (SqT K H p ys ∧ Q (.ref p) H))
theorem list_L : CallW X (.type "list") (aCons (rpL (i := i)) aNil) (rpL (i := i)) (rListOf X.K) (fun x post _ => post x.1) :=
  ⟨call_list_of, fun rs G H vs x post ep Q w ha φ k => by
    obtain ⟨v, rfl, l, us, rfl, h1, h2, h3⟩ := one1 ha
    refine ⟨l, us, rfl, .inl (SqL.of (w.s _ _ h1)), fun p hp => ?_⟩
    have g := gr_new (o := .lst us) w hp
    exact k _ _ _ _ g ⟨p, us, rfl, upd_same, h2.mono g.g, h3⟩ φ⟩
theorem list_T : CallW X (.type "list") (aCons (rpT (i := i)) aNil) (rpL (i := i)) (rListOf X.K) (fun x post _ => post x.1.l) :=
  ⟨call_list_of, fun rs G H vs x post ep Q w ha φ k => by
    obtain ⟨v, rfl, l, us, rfl, h1, h2, h3⟩ := one1 ha
    refine ⟨l, us, rfl, .inr (w.s.st h1), fun p hp => ?_⟩
    have g := gr_new (o := .lst us) w hp
    exact k _ _ _ _ g ⟨p, us, rfl, upd_same, h2.mono g.g, h3⟩ φ⟩
theorem tuple_L : CallW X (.type "tuple") (aCons (rpL (i := i)) aNil) (rpT (i := i)) (rTupOf X.K) (fun x post _ => post ⟨x.1⟩) :=
  ⟨call_tuple_of, fun rs G H vs x post ep Q w ha φ k => by
    obtain ⟨v, rfl, l, us, rfl, h1, h2, h3⟩ := one1 ha
    refine ⟨l, us, rfl, .inl ⟨SqL.of (w.s _ _ h1), fun p hp => ?_⟩⟩
    have g := gr_new (o := .tup us) w hp
    exact k _ _ _ _ g ⟨p, us, rfl, SqT.of upd_same, h2.mono g.g, h3⟩ φ⟩
theorem tuple_T : CallW X (.type "tuple") (aCons (rpT (i := i)) aNil) (rpT (i := i)) (rTupOf X.K) (fun x post _ => post x.1) :=
  ⟨call_tuple_of, fun rs G H vs x post ep Q w ha φ k => by
    obtain ⟨v, rfl, l, us, rfl, h1, h2, h3⟩ := one1 ha
    exact ⟨l, us, rfl, .inr ⟨w.s.st h1, k G H _ _ (Gr.refl w) ⟨l, us, rfl, h1, h2, h3⟩ φ⟩⟩⟩
end
/-! ### more statements -/
section
variable {X : Cx} {c : Cn} {ρ : List Sl} {S L β α γ : Type} {out : S → List Sl} {lp : L → List Sl} {i : Rp β} {iα : Rp α} {iγ : Rp γ} {pos : Pos} {rest : List Stmt} {tr : TS} {e : Expr} {te : TE} {Φe : Pt α}
theorem b_doc {x : Str} {j : Nat} {p1 p2 : Pos} {Φr : Pt (Out S L β)} (hr : JB X c rest ρ out lp i tr Φr) : JB X c (.Expr (.Constant (.str x) j p1) p2 :: rest) ρ out lp i (tSeq tNext tr) Φr :=
  ⟨pss_cons ps_doc hr.pe, fun post ep φ G H σ g E D k hx => hr.sem _ _ φ G H σ g E D k hx⟩
theorem b_retN : JB X c (.Return none pos :: rest) ρ out lp rpN (tSeq tRetN tNever) (fun post _ => post (.rt ())) :=
  ⟨pss_cons ps_retN pss_never, fun post ep φ G H σ g E D k hx => k.rt G H .non () g (Ex.refl _) rfl φ⟩
/-- an if whose ways all leave -/
theorem b_ifE2 {t : Expr} {b1 b2 : List Stmt} {tt : TT} {t1 t2 : TS} {Φt : Pt Bool} {Φ1 Φ2 : Pt (Out Empty L β)} (ht : JT X c t ρ tt Φt) (h1 : JB X c b1 ρ (fun z : Empty => nomatch z) lp i t1 Φ1) (h2 : JB X c b2 ρ (fun z : Empty => nomatch z) lp i t2 Φ2) :
    JB X c (.If t b1 b2 pos :: rest) ρ out lp i (tSeq (tIfS tt t1 t2) tNever) (fun post ep => Φt (fun k => if k = true then Φ1 (seqP (fun z : Empty => nomatch z) post ep) ep else Φ2 (seqP (fun z : Empty => nomatch z) post ep) ep) ep) := by
  refine ⟨pss_cons (ps_if ht.pe h1.pe h2.pe) pss_never, fun post ep φ G H σ g E D k hx => ?_⟩
  refine ht.sem _ _ φ G H σ g.w E _ (fun G1 H1 m g1 p => ?_) (hx.at g)
  have k := k.up g1.g
  have ends : EndsOk X c G1 i (fun z : Empty => nomatch z) lp (seqP (fun z : Empty => nomatch z) post ep) { D with nx := tNever D } :=
    ⟨fun G' H' σ' s => Empty.elim s, fun G' H' v b g' x' r p' => k.rt G' H' v b g' x' r p', fun G' H' σ' l g' x' E' p' => k.bk G' H' σ' l g' x' E' p', fun G' H' σ' l g' x' E' p' => k.ct G' H' σ' l g' x' E' p'⟩
  cases m with
  | true => exact h1.sem _ _ p G1 H1 σ (g.trans g1) (E.up g1) _ ends hx
  | false => exact h2.sem _ _ p G1 H1 σ (g.trans g1) (E.up g1) _ ends hx
/-- a, b = e1, e2: two local names -/
theorem b_par [Nonempty α] [Nonempty γ] (j1 j2 : Nat) {x y : Str} {a b : Expr} {px py pt : Pos} {kt k2 : Nat} {pt2 : Pos} {ta : TA} {Φa : Pt (α × γ × Unit)} {Φr : α → γ → Pt (Out S L β)} (hN : X.N.Nodup) (ha : JA X c [a, b] ρ (aCons iα (aCons iγ aNil)) ta Φa)
    (hr : ∀ m n, JB X c rest ((ρ.set j1 (.val iα m)).set j2 (.val iγ n)) out lp i tr (Φr m n)) (hc : X.calm = true := by rfl) (hi : X.N[j1]? = some x := by rfl) (hj : X.N[j2]? = some y := by rfl) (hij : j1 ≠ j2 := by decide) (hx : X.env.scope.names.lookup x = some .local := by rfl) (hy : X.env.scope.names.lookup y = some .local := by rfl)
    (hw : swappedStores [.Tuple [.Name x px, .Name y py] kt pt] (.Tuple [a, b] k2 pt2) X.env = pure (some [x, y]) := by rfl) (hs : swapsWithSole [.Tuple [.Name x px, .Name y py] kt pt] (.Tuple [a, b] k2 pt2) pos.line X.env = pure false := by rfl) :
    JB X c (.Assign [.Tuple [.Name x px, .Name y py] kt pt] (.Tuple [a, b] k2 pt2) pos :: rest) ρ out lp i (tSeq (tPar j1 j2 ta) tr) (fun post ep => Φa (fun z => Φr z.1 z.2.1 post ep) ep) := by
  refine ⟨pss_cons (ps_par hc hN hi hj hij hx hy ha.pe hw hs) (hr (Classical.choice inferInstance) (Classical.choice inferInstance)).pe, fun post ep φ G H σ g E D k hxx => ?_⟩
  refine ha.sem _ _ φ G H σ g.w E _ (fun G1 H1 vs z g1 r p => ?_) (hxx.at g)
  obtain ⟨v, u, rfl, h1, h2⟩ := two2 r
  refine ⟨v, u, rfl, (hr z.1 z.2.1).sem _ _ p G1 H1 _ (g.trans g1) ?_ D (k.up g1.g) hxx⟩
  exact (((E.up g1).set (x := .val iα z.1) ⟨v, rfl, h1⟩ rfl).set (x := .val iγ z.2.1) ⟨u, rfl, h2⟩ rfl)
end
end Ty

set_option Elab.async false
set_option linter.all false
set_option maxRecDepth 100000
set_option maxHeartbeats 4000000
set_option autoImplicit false
/-! Ty, part G: operators, len, truth, repr, in, == of own classes; isinstance -/
namespace Ty
open PySem PySem.Spec PyProof.Rows L2

/-- such values are instances of the class at C -/
def InsR (K : Fg) {α : Type} (i : Rp α) (C : Addr) : Prop := ∀ (G : Hp) (v : V) (m : α), i.rp K G v m → ∃ p dx fs, v = .ref p ∧ G p = some (.ins C dx fs)
def IsI (H : Hp) (C : Addr) (x : V) : Prop := ∃ p dx fs, x = .ref p ∧ H p = some (.ins C dx fs)
theorem InsR.is {K : Fg} {α : Type} {i : Rp α} {C : Addr} (h : InsR K i C) {G H : Hp} {v : V} {m : α} (w : Ex G H) (r : i.rp K G v m) : IsI H C v := by
  obtain ⟨p, dx, fs, h1, h2⟩ := h G v m r
  exact ⟨p, dx, fs, h1, w _ _ h2⟩
section
variable {X : Cx} {k : Nat} {f : Addr} {fd : FuncData} {ps : List Str} {sp : Sp} {pins : List (Addr × Obj)} {σ : L2.St} {H : Hp} {s : Shared} {us : List Value} {vs : List V} {Q : VK} {A : Around}
/-- an own method that lets no error out, called by the machine -/
theorem own_run (hr : Room k A) (hA : A.frames = X.A.frames) (F : FnOk X.prog X.w X.K X.mg X.base (L2.CX X.prog X.w) k f fd ps sp) (hb : Binds X.K fd ps []) (I : Inv X pins σ H s) (r : Vals vs us) (h : sp vs H Q E0) :
    wpAny (model X.prog X.w) A (call (.ref f) us) (EP X pins σ Q) X.xe s := by
  have hl := F.len _ _ _ _ h
  have e0 : Env0 X.prog X.w X.K X.mg X.base A X.stack s H := by
    have e := I.env0
    exact ⟨by rw [hA]; exact e.frames, e.mod, e.bs, e.bsz, e.funs, e.frf, e.hok, e.bare⟩
  have hl2 : us.length = ps.length := by rw [← r.length]; exact hl
  refine wpAny_call (codeAny_mono (F.run A X.stack s H ⟨us, []⟩ us vs Q E0 hr e0 (by
    have := hb s us I.kIn (by simpa using hl2)
    simpa using this) r h) fun r s' hq => ?_)
  cases r with
  | error e => exact passL pins σ H s e s' I hq
  | ok fl =>
    cases fl with
    | ret w => exact I.after hq
    | next => exact False.elim hq
    | brk => exact False.elim hq
    | cont => exact False.elim hq
theorem back_of {v : Value} {s' : Shared} (h : EP X pins σ Q v s') : PySem.W.CmpBack (EP X pins σ Q) v s' := by
  have h' := h
  obtain ⟨z, H', I', r, q⟩ := h
  cases v <;> first | exact h' | (cases z <;> first | (obtain ⟨_, e⟩ := r; cases e) | cases r)
/-- the instance at an address -/
theorem inst_at {C dx : Addr} {p : Addr} {fs : List (Str × V)} (I : Inv X pins σ H s) (h : H p = some (.ins C dx fs)) : ∃ ox od, PySem.W.InstAt s.heap p ox C (some od) := by
  obtain ⟨mA, J, _⟩ := ins_get I.hok h
  obtain ⟨od, J, _⟩ := J.look
  exact ⟨_, od, J⟩
end
section
variable {X : Cx} {k : Nat} {C f : Addr} {fd : FuncData} {ps : List Str} {α β γ : Type} {iα : Rp α} {iβ : Rp β} {iγ : Rp γ}
abbrev as1 {α : Type} (iα : Rp α) : α × Unit → List Sl := aCons iα aNil
abbrev as2 {α β : Type} (iα : Rp α) (iβ : Rp β) : α × β × Unit → List Sl := aCons iα (aCons iβ aNil)
/-- a promise used where no error may come -/
theorem sp_use {K : Fg} {rs : Rs} {ι : Type} {as : ι → List Sl} {i : Rp γ} {Φ : ι → Pt γ} {G H : Hp} {vs : List V} {x : ι} {post : γ → Prop} {Q : VK} (w : Wd rs G H) (a : ArgsOk K G vs (as x)) (φ : Φ x post (fun _ => False)) (k : ∀ G' H' z m, Gr rs G H G' H' → i.rp K G' z m → post m → Q z H') : spOf K rs0 as i Φ vs H Q E0 :=
  ⟨G, x, post, fun _ => False, w.to0, a, φ, fun G' H' v m g r p => k G' H' v m (g.lift w) r p, fun _ _ _ _ _ _ _ z => z.elim⟩
def rOwn2 (C : Addr) (P : V → Hp → Prop) (sp : Sp) : R2 := fun x y H Q => IsI H C x ∧ P y H ∧ sp [x, y] H Q E0
theorem opw_own {op : Operator} {Φ : α × β × Unit → Pt γ} (hα : InsR X.K iα C) (hβ : InsR X.K iβ C) (F : FnOk X.prog X.w X.K X.mg X.base (L2.CX X.prog X.w) k f fd ps (spOf X.K rs0 (as2 iα iβ) iγ Φ)) (hb : Binds X.K fd ps []) (hr : Room k X.A)
    (hsf : PySem.W.selfFirst X.K C = true) (hs : PySem.W.findIn X.K (.ref C) (PySem.dunder op.info.2) = some (some (.ref f))) (hf : PySem.W.isFn X.K (.ref f) = true) :
    OpW X (binaryOp op) iα iβ iγ (rOwn2 C (fun y H => IsI H C y) (spOf X.K rs0 (as2 iα iβ) iγ Φ)) (fun a b post _ => Φ (a, b, ()) post (fun _ => False)) := by
  refine ⟨fun pins s σ H x y v u Q I rx ry h => ?_, fun rs G H x y a b post ep Q w hx hy φ k => ⟨hα.is w.s hx, hβ.is w.s hy, sp_use w (.cons (.val hx) (.cons (.val hy) .nil)) φ k⟩⟩
  obtain ⟨⟨p, dx, fs, rfl, h1⟩, ⟨q, dy, gs, rfl, h2⟩, h⟩ := h
  cases rx
  cases ry
  obtain ⟨ox, od, J⟩ := inst_at I h1
  obtain ⟨oy, oe, J'⟩ := inst_at I h2
  obtain ⟨m, hF⟩ := I.fr
  refine PySem.W.binop_K hF I.ok.mod.kin J J'.type hsf hs hf ?_
  exact thn (own_run (vs := [.ref p, .ref q]) hr rfl F hb I (.cons rfl (.cons rfl .nil)) h) fun v s' z => back_of z
/-- .. by a whole number -/
theorem opw_ownI {op : Operator} {Φ : α × Int × Unit → Pt γ} {fo ro rc : Option Value} (hα : InsR X.K iα C) (F : FnOk X.prog X.w X.K X.mg X.base (L2.CX X.prog X.w) k f fd ps (spOf X.K rs0 (as2 iα rpI) iγ Φ)) (hb : Binds X.K fd ps []) (hr : Room k X.A)
    (hsf : PySem.W.selfFirst X.K C = true) (hs : PySem.W.findIn X.K (.ref C) (PySem.dunder op.info.2) = some (some (.ref f))) (hf : PySem.W.isFn X.K (.ref f) = true) (hrc : PySem.W.findIn X.K (.ref C) (PySem.dunderR op.info.2) = some rc) (hp : rc = none ∨ ∃ g : Addr, rc = some (.ref g))
    (h1 : PySem.W.findIn X.K (.type "int") (PySem.dunder op.info.2) = some fo) (h2 : PySem.W.findIn X.K (.type "int") (PySem.dunderR op.info.2) = some ro) (hsub : PySem.W.subIn X.K (.type "int") (.ref C) = some false) :
    OpW X (binaryOp op) iα rpI iγ (rOwn2 C (fun y _ => ∃ n, y = .int n) (spOf X.K rs0 (as2 iα rpI) iγ Φ)) (fun a b post _ => Φ (a, b, ()) post (fun _ => False)) := by
  refine ⟨fun pins s σ H x y v u Q I rx ry h => ?_, fun rs G H x y a b post ep Q w hx hy φ k => ⟨hα.is w.s hx, ⟨b, hy⟩, sp_use w (.cons (.val hx) (.cons (.val hy) .nil)) φ k⟩⟩
  obtain ⟨⟨p, dx, fs, rfl, hp1⟩, ⟨n, rfl⟩, h⟩ := h
  cases rx
  obtain ⟨t, rfl⟩ := ry
  obtain ⟨ox, od, J⟩ := inst_at I hp1
  obtain ⟨m, hF⟩ := I.fr
  refine PySem.W.ksp_binT (T := "int") hF I.ok.mod.kin J rfl hsf hs hf hrc hp h1 h2 hsub ?_
  exact thn (own_run (vs := [.ref p, .int n]) hr rfl F hb I (.cons rfl (.cons ⟨t, rfl⟩ .nil)) h) fun v s' z => back_of z
/-- own == (and the like): the left one is asked -/
theorem cmpw_own {op : CmpOp} {Φ : α × β × Unit → Pt γ} (hop : ∀ v u, compareOp op v u = richCompare op v u) (hα : InsR X.K iα C) (hβ : InsR X.K iβ C) (F : FnOk X.prog X.w X.K X.mg X.base (L2.CX X.prog X.w) k f fd ps (spOf X.K rs0 (as2 iα iβ) iγ Φ)) (hb : Binds X.K fd ps []) (hr : Room k X.A)
    (hs : PySem.W.findIn X.K (.ref C) (cmpInfo op).2.1 = some (some (.ref f))) (hf : PySem.W.isFn X.K (.ref f) = true) :
    OpW X (compareOp op) iα iβ iγ (rOwn2 C (fun y H => IsI H C y) (spOf X.K rs0 (as2 iα iβ) iγ Φ)) (fun a b post _ => Φ (a, b, ()) post (fun _ => False)) := by
  refine ⟨fun pins s σ H x y v u Q I rx ry h => ?_, fun rs G H x y a b post ep Q w hx hy φ k => ⟨hα.is w.s hx, hβ.is w.s hy, sp_use w (.cons (.val hx) (.cons (.val hy) .nil)) φ k⟩⟩
  obtain ⟨⟨p, dx, fs, rfl, h1⟩, ⟨q, dy, gs, rfl, h2⟩, h⟩ := h
  cases rx
  cases ry
  obtain ⟨ox, od, J⟩ := inst_at I h1
  obtain ⟨oy, oe, J'⟩ := inst_at I h2
  obtain ⟨m, hF⟩ := I.fr
  rw [hop]
  refine PySem.W.cmp_K (tb := .ref C) hr.units0 hF I.ok.mod.kin J J'.type (by simp [PySem.W.notFirst]) hs hf ?_
  exact thn (own_run (vs := [.ref p, .ref q]) hr rfl F hb I (.cons rfl (.cons rfl .nil)) h) fun v s' z => back_of z
/-- x in o, o an own instance -/
def rOwnIn (C : Addr) (sp : Sp) : R2 := fun x y H Q => IsI H C y ∧ sp [y, x] H (fun z H' => ∃ b, z = .bl b ∧ Q (.bl b) H') E0
theorem inw_own {Φ : β × α × Unit → Pt Bool} (hβ : InsR X.K iβ C) (F : FnOk X.prog X.w X.K X.mg X.base (L2.CX X.prog X.w) k f fd ps (spOf X.K rs0 (as2 iβ iα) rpB Φ)) (hb : Binds X.K fd ps []) (hr : Room k X.A)
    (hs : PySem.W.findIn X.K (.ref C) "__contains__" = some (some (.ref f))) (hf : PySem.W.isFn X.K (.ref f) = true) :
    OpW X (compareOp .In) iα iβ rpB (rOwnIn C (spOf X.K rs0 (as2 iβ iα) rpB Φ)) (fun a b post _ => Φ (b, a, ()) post (fun _ => False)) := by
  refine ⟨fun pins s σ H x y v u Q I rx ry h => ?_, fun rs G H x y a b post ep Q w hx hy φ k => ⟨hβ.is w.s hy, sp_use w (.cons (.val hy) (.cons (.val hx) .nil)) φ fun G' H' z m g r p => ⟨m, r, k G' H' _ m g rfl p⟩⟩⟩
  obtain ⟨⟨p, dx, fs, rfl, h1⟩, h⟩ := h
  cases ry
  obtain ⟨ox, od, J⟩ := inst_at I h1
  obtain ⟨m, hF⟩ := I.fr
  refine PySem.W.in_K hF I.ok.mod.kin J hs hf ?_
  refine thn (own_run (vs := [.ref p, x]) hr rfl F hb I (.cons rfl (.cons rx .nil)) h) fun v s' z => ?_
  obtain ⟨z, H', I', r, b, rfl, q⟩ := z
  cases r
  exact wpAny_truthy_bool ⟨.bl b, H', I', rfl, q⟩
def rOwnNi (C : Addr) (sp : Sp) : R2 := fun x y H Q => IsI H C y ∧ sp [y, x] H (fun z H' => ∃ b, z = .bl b ∧ Q (.bl (!b)) H') E0
theorem ninw_own {Φ : β × α × Unit → Pt Bool} (hβ : InsR X.K iβ C) (F : FnOk X.prog X.w X.K X.mg X.base (L2.CX X.prog X.w) k f fd ps (spOf X.K rs0 (as2 iβ iα) rpB Φ)) (hb : Binds X.K fd ps []) (hr : Room k X.A)
    (hs : PySem.W.findIn X.K (.ref C) "__contains__" = some (some (.ref f))) (hf : PySem.W.isFn X.K (.ref f) = true) :
    OpW X (compareOp .NotIn) iα iβ rpB (rOwnNi C (spOf X.K rs0 (as2 iβ iα) rpB Φ)) (fun a b post _ => Φ (b, a, ()) (fun r => post (!r)) (fun _ => False)) := by
  refine ⟨fun pins s σ H x y v u Q I rx ry h => ?_, fun rs G H x y a b post ep Q w hx hy φ k => ⟨hβ.is w.s hy, sp_use w (.cons (.val hy) (.cons (.val hx) .nil)) φ fun G' H' z m g r p => ⟨m, r, k G' H' _ (!m) g rfl p⟩⟩⟩
  obtain ⟨⟨p, dx, fs, rfl, h1⟩, h⟩ := h
  cases ry
  obtain ⟨ox, od, J⟩ := inst_at I h1
  obtain ⟨m, hF⟩ := I.fr
  refine PySem.W.notIn_K hF I.ok.mod.kin J hs hf ?_
  refine thn (own_run (vs := [.ref p, x]) hr rfl F hb I (.cons rfl (.cons rx .nil)) h) fun v s' z => ?_
  obtain ⟨z, H', I', r, b, rfl, q⟩ := z
  cases r
  exact wpAny_truthy_bool ⟨.bl (!b), H', I', rfl, q⟩
/-- len(o) -/
def rOwnLen (C : Addr) (sp : Sp) : List V → Hp → VK → Prop := fun xs H Q => ∃ x, xs = [x] ∧ IsI H C x ∧ sp [x] H (fun z H' => ∃ n : Int, z = .int n ∧ (0 ≤ n ∧ n < 2 ^ 63) ∧ Q (.int n) H') E0
theorem lenw_own {Φ : α × Unit → Pt Int} (hα : InsR X.K iα C) (F : FnOk X.prog X.w X.K X.mg X.base (L2.CX X.prog X.w) k f fd ps (spOf X.K rs0 (as1 iα) rpI Φ)) (hb : Binds X.K fd ps []) (hr : Room (k + 1) X.A)
    (hs : PySem.W.findIn X.K (.ref C) "__len__" = some (some (.ref f))) (hf : PySem.W.isFn X.K (.ref f) = true) :
    CallW X (.builtin "len") (as1 iα) rpI (rOwnLen C (spOf X.K rs0 (as1 iα) rpI Φ)) (fun a post _ => Φ (a.1, ()) (fun n => (0 ≤ n ∧ n < 2 ^ 63) ∧ post n) (fun _ => False)) := by
  refine ⟨fun pins s σ H xs us Q I r h => ?_, fun rs G H vs x post ep Q w ha φ k => ?_⟩
  · obtain ⟨x, rfl, ⟨p, dx, fs, rfl, h1⟩, h⟩ := h
    obtain ⟨u, rfl, ru⟩ := vals1 r
    cases ru
    obtain ⟨ox, od, J⟩ := inst_at I h1
    obtain ⟨m, hF⟩ := I.fr
    refine PySem.W.len_K hF I.ok.mod.kin J hs hf ?_
    refine thn (own_run (vs := [.ref p]) hr.in1 rfl F hb I (.cons rfl .nil) h) fun v s' z => ?_
    obtain ⟨z, H', I', r, n, rfl, hn, q⟩ := z
    obtain ⟨t, rfl⟩ := r
    exact ⟨hn, ⟨.int n, H', I'.tok _, ⟨_, rfl⟩, q⟩⟩
  · obtain ⟨v, rfl, hv⟩ := one1 ha
    exact ⟨v, rfl, hα.is w.s hv, sp_use w (.cons (.val hv) .nil) φ fun G' H' z m g r p => ⟨m, r, p.1, k G' H' _ m g rfl p.2⟩⟩
/-- repr(o) -/
def rOwnRepr (C : Addr) (sp : Sp) : List V → Hp → VK → Prop := fun xs H Q => ∃ x, xs = [x] ∧ IsI H C x ∧ sp [x] H (fun z H' => ∃ n : Str, z = .str n ∧ Q (.str n) H') E0
theorem reprw_own {Φ : α × Unit → Pt Str} (hα : InsR X.K iα C) (F : FnOk X.prog X.w X.K X.mg X.base (L2.CX X.prog X.w) k f fd ps (spOf X.K rs0 (as1 iα) rpS Φ)) (hb : Binds X.K fd ps []) (hr : Room (k + 1) X.A)
    (hs : PySem.W.findIn X.K (.ref C) "__repr__" = some (some (.ref f))) (hf : PySem.W.isFn X.K (.ref f) = true) :
    CallW X (.builtin "repr") (as1 iα) rpS (rOwnRepr C (spOf X.K rs0 (as1 iα) rpS Φ)) (fun a post _ => Φ (a.1, ()) post (fun _ => False)) := by
  refine ⟨fun pins s σ H xs us Q I r h => ?_, fun rs G H vs x post ep Q w ha φ k => ?_⟩
  · obtain ⟨x, rfl, ⟨p, dx, fs, rfl, h1⟩, h⟩ := h
    obtain ⟨u, rfl, ru⟩ := vals1 r
    cases ru
    obtain ⟨ox, od, J⟩ := inst_at I h1
    obtain ⟨m, hF⟩ := I.fr
    refine PySem.W.repr_K (hr.in1).units0 hF I.ok.mod.kin J hs hf ?_
    refine thn (own_run (vs := [.ref p]) hr.in1 rfl F hb I (.cons rfl .nil) h) fun v s' z => ?_
    obtain ⟨z, H', I', r, n, rfl, q⟩ := z
    obtain ⟨t, rfl⟩ := r
    exact ⟨.str n, H', I', ⟨_, rfl⟩, q⟩
  · obtain ⟨v, rfl, hv⟩ := one1 ha
    exact ⟨v, rfl, hα.is w.s hv, sp_use w (.cons (.val hv) .nil) φ fun G' H' z m g r p => ⟨m, r, k G' H' _ m g rfl p⟩⟩
/-- an own instance's truth, by __bool__ -/
def tOwnTru (C : Addr) (sp : Sp) (te : TE) : TT := fun σ H Q => te σ H fun x H1 => IsI H1 C x ∧ sp [x] H1 (fun z H' => ∃ b, z = .bl b ∧ Q b H') E0
theorem t_own {c : Cn} {ρ : List Sl} {e : Expr} {te : TE} {Φe : Pt α} {Φ : α × Unit → Pt Bool} (hα : InsR X.K iα C) (F : FnOk X.prog X.w X.K X.mg X.base (L2.CX X.prog X.w) k f fd ps (spOf X.K rs0 (as1 iα) rpB Φ)) (hb : Binds X.K fd ps []) (hr : Room k X.A)
    (hs : PySem.W.findIn X.K (.ref C) "__bool__" = some (some (.ref f))) (hf : PySem.W.isFn X.K (.ref f) = true) (he : JE X c e ρ iα te Φe)
    (ht : ∀ whole, isTrue e X.env whole = (do let v ← whole; standAt e.pos; holding [v] (truthy v)) := by intro _; rfl) : JT X c e ρ (tOwnTru C (spOf X.K rs0 (as1 iα) rpB Φ) te) (fun post ep => Φe (fun m => Φ (m, ()) post (fun _ => False)) ep) := by
  refine ⟨⟨fun pins s σ H Q I h => ?_⟩, fun post ep φ G H σ w E Q k hx => he.sem _ _ φ G H σ w E _ (fun G1 H1 v m g r p => ⟨hα.is g.w.s r, sp_use g.w (.cons (.val r) .nil) p fun G' H' z b g' r' p' => ⟨b, r', k G' H' b (g.trans g') p'⟩⟩) hx⟩
  refine isTrue_plain (thn (he.pe.run pins s σ H _ I h) fun v s1 ⟨x, H1, I1, r1, ⟨p, dx, fs, ex, h1⟩, q1⟩ => ?_) (ht _)
  subst ex
  cases r1
  obtain ⟨ox, od, J⟩ := inst_at I1 h1
  obtain ⟨m, hF⟩ := I1.fr
  refine PySem.W.truthy_K hF I1.ok.mod.kin J hs hf ?_
  refine thn (own_run (vs := [.ref p]) hr rfl F hb I1 (.cons rfl .nil) q1) fun v s' z => ?_
  obtain ⟨z, H', I', r, b, rfl, q⟩ := z
  cases r
  exact ⟨H', I', q⟩
end
end Ty

set_option Elab.async false
set_option linter.all false
set_option maxRecDepth 100000
set_option maxHeartbeats 4000000
set_option autoImplicit false
/-! Ty, part H: ranges as values, f-strings, bool and not of own instances, reflected operators -/
namespace Ty
open PySem PySem.Spec PyProof.Rows L2
/-- a range object -/
structure Rg where
  lo : Int
  hi : Int
instance rpR : Rp Rg := ⟨fun _ G v m => ∃ a, v = .ref a ∧ G a = some (.rng m.lo m.hi), fun e h => by
  obtain ⟨a, h1, h2⟩ := h
  exact ⟨a, h1, e _ _ h2⟩⟩
section
variable {X : Cx}
abbrev rRng2 : List V → Hp → VK → Prop := fun vs H Q => ∃ i j, vs = [V.int i, V.int j] ∧ ∀ p, H p = none → Q (.ref p) (upd H p (.rng i j))
theorem rng_2 : CallW X (.type "range") (as2 rpI rpI) rpR rRng2 (fun x post _ => post ⟨x.1, x.2.1⟩) :=
  ⟨cr_range2, fun rs G H vs x post ep Q w ha φ k => by
    obtain ⟨v, u, rfl, rfl, rfl⟩ := two2 ha
    refine ⟨x.1, x.2.1, rfl, fun p hp => ?_⟩
    have g := gr_new (o := .rng x.1 x.2.1) w hp
    exact k _ _ _ _ g ⟨p, rfl, upd_same⟩ φ⟩
def rLenR : List V → Hp → VK → Prop := fun xs H Q => ∃ a lo hi, xs = [.ref a] ∧ H a = some (.rng lo hi) ∧ hi - lo < 2 ^ 63 ∧ Q (.int (max 0 (hi - lo))) H
theorem size1 (lo hi : Int) : Builtin.Range.rangeSize lo hi 1 = max 0 (hi - lo) := by
  unfold Builtin.Range.rangeSize
  simp
  try omega
theorem call_lenR : CallR X (.builtin "len") rLenR := by
  intro pins s σ H xs us Q I r h
  obtain ⟨a, lo, hi, rfl, ha, hb, q⟩ := h
  obtain ⟨u, rfl, ru⟩ := vals1 r
  cases ru
  obtain ⟨t, u, v, hr⟩ := I.hok a _ ha
  refine call_len_range (n := (max 0 (hi - lo)).toNat) (a := lo) (b := hi) (c := 1) (t := t) (u := u) (v := v) hr ?_ (by omega) ?_
  · rw [size1]
    omega
  · have e : (((max 0 (hi - lo)).toNat : Nat) : Int) = max 0 (hi - lo) := by omega
    rw [e]
    exact ⟨.int (max 0 (hi - lo)), H, I.tok _, ⟨_, rfl⟩, q⟩
theorem len_R : CallW X (.builtin "len") (as1 rpR) rpI rLenR (fun x post _ => x.1.hi - x.1.lo < 2 ^ 63 ∧ post (max 0 (x.1.hi - x.1.lo))) :=
  ⟨call_lenR, fun rs G H vs x post ep Q w ha φ k => by
    obtain ⟨v, rfl, a, rfl, h⟩ := one1 ha
    exact ⟨a, x.1.lo, x.1.hi, rfl, w.s _ _ h, φ.1, k G H _ _ (Gr.refl w) rfl φ.2⟩⟩
end
/-! ### f-strings -/
section
variable {X : Cx} {c : Cn} {ρ : List Sl} {e : Expr} {te : TE} {pos : Pos}
theorem e_fmtI {Φ : Pt Int} (he : JE X c e ρ rpI te Φ) : JE X c (.FormattedValue e (-1) none pos) ρ rpS (tFmt te) (fun post ep => Φ (fun n => n.natAbs.log2 < 1920 ∧ post (toString n)) ep) :=
  ⟨pe_fmt he.pe, fun post ep φ G H σ w E Q k hx => he.sem _ _ φ G H σ w E _ (fun G1 H1 v m g r p => .inr ⟨m, r, p.1, k G1 H1 _ _ g rfl p.2⟩) hx⟩
theorem e_fmtS {Φ : Pt Str} (he : JE X c e ρ rpS te Φ) : JE X c (.FormattedValue e (-1) none pos) ρ rpS (tFmt te) (fun post ep => Φ (fun n => n.length ≤ sizeLine ∧ post n) ep) :=
  ⟨pe_fmt he.pe, fun post ep φ G H σ w E Q k hx => he.sem _ _ φ G H σ w E _ (fun G1 H1 v m g r p => .inl ⟨m, r, p.1, k G1 H1 _ _ g rfl p.2⟩) hx⟩
structure JF (X : Cx) (c : Cn) (es : List Expr) (ρ : List Sl) (ts : List TE) (Φ : Str → Pt Str) : Prop where
  pe : PJ X es ts
  sem : ∀ acc post ep, Φ acc post ep → ∀ G H σ, Wd c.rs G H → En X.K c.rs c.H0 G H σ ρ → ∀ Q : Str → Hp → Prop, (∀ G' H' m, Gr c.rs G H G' H' → post m → Q m H') → XOk X c G H σ ep → tJs ts acc σ H Q
theorem f_nil : JF X c [] ρ [] (fun acc post _ => post acc) := ⟨.nil, fun acc post ep φ G H σ w E Q k hx => k G H acc (Gr.refl w) φ⟩
theorem f_cons {es : List Expr} {ts : List TE} {Φe : Pt Str} {Φr : Str → Pt Str} (he : JE X c e ρ rpS te Φe) (hr : JF X c es ρ ts Φr) : JF X c (e :: es) ρ (te :: ts) (fun acc post ep => Φe (fun y => (acc ++ y).length ≤ sizeLine ∧ Φr (acc ++ y) post ep) ep) :=
  ⟨.cons he.pe hr.pe, fun acc post ep φ G H σ w E Q k hx => he.sem _ _ φ G H σ w E _ (fun G1 H1 v m g r p => ⟨m, r, p.1, hr.sem _ _ _ p.2 G1 H1 σ g.w (E.up g) _ (fun G2 H2 n g2 q => k G2 H2 n (g.trans g2) q) (hx.up g)⟩) hx⟩
theorem e_fstr {v1 v2 : Expr} {rest : List Expr} {ts : List TE} {Φ : Str → Pt Str} (h : JF X c (v1 :: v2 :: rest) ρ ts Φ) : JE X c (.JoinedStr (v1 :: v2 :: rest) pos) ρ rpS (fun σ H Q => tJs ts Str.empty σ H fun out H1 => Q (.str out) H1) (Φ Str.empty) :=
  ⟨pe_joined h.pe, fun post ep φ G H σ w E Q k hx => h.sem _ _ _ φ G H σ w E _ (fun G1 H1 m g p => k G1 H1 _ m g rfl p) hx⟩
end
/-! ### own instances: bool(o), not o -/
section
variable {X : Cx} {k : Nat} {C f : Addr} {fd : FuncData} {ps : List Str} {α β γ : Type} {iα : Rp α} {iβ : Rp β} {iγ : Rp γ}
def tOwnNot (C : Addr) (sp : Sp) (te : TE) : TE := fun σ H Q => te σ H fun x H1 => IsI H1 C x ∧ sp [x] H1 (fun z H' => ∃ b, z = .bl b ∧ Q (.bl (!b)) H') E0
theorem e_notO {c : Cn} {ρ : List Sl} {e : Expr} {te : TE} {pos : Pos} {Φe : Pt α} {Φ : α × Unit → Pt Bool} (hα : InsR X.K iα C) (F : FnOk X.prog X.w X.K X.mg X.base (L2.CX X.prog X.w) k f fd ps (spOf X.K rs0 (as1 iα) rpB Φ)) (hb : Binds X.K fd ps []) (hr : Room k X.A)
    (hs : PySem.W.findIn X.K (.ref C) "__bool__" = some (some (.ref f))) (hf : PySem.W.isFn X.K (.ref f) = true) (he : JE X c e ρ iα te Φe) :
    JE X c (.UnaryOp .Not e pos) ρ rpB (tOwnNot C (spOf X.K rs0 (as1 iα) rpB Φ) te) (fun post ep => Φe (fun m => Φ (m, ()) (fun b => post (!b)) (fun _ => False)) ep) := by
  refine ⟨⟨fun pins s σ H Q I h => ?_⟩, fun post ep φ G H σ w E Q k hx => he.sem _ _ φ G H σ w E _ (fun G1 H1 v m g r p => ⟨hα.is g.w.s r, sp_use g.w (.cons (.val r) .nil) p fun G' H' z b g' r' p' => ⟨b, r', k G' H' _ (!b) (g.trans g') rfl p'⟩⟩) hx⟩
  refine UnaryOp_ (thn (he.pe.run pins s σ H _ I h) fun v s1 ⟨x, H1, I1, r1, ⟨p, dx, fs, ex, h1⟩, q1⟩ => ?_)
  subst ex
  cases r1
  obtain ⟨ox, od, J⟩ := inst_at I1 h1
  obtain ⟨m, hF⟩ := I1.fr
  refine not_of (PySem.W.truthy_K hF I1.ok.mod.kin J hs hf ?_)
  refine thn (own_run (vs := [.ref p]) hr rfl F hb I1 (.cons rfl .nil) q1) fun v s' z => ?_
  obtain ⟨z, H', I', r, b, rfl, q⟩ := z
  cases r
  exact ⟨.bl (!b), H', I', rfl, q⟩
end
end Ty

set_option Elab.async false
set_option linter.all false
set_option maxRecDepth 100000
set_option maxHeartbeats 1000000
set_option autoImplicit false
/-! Ty, part I: bool(o), n * o, isinstance, own dicts -/
namespace Ty
open PySem PySem.Spec PyProof.Rows L2

/-! ### bool(o) -/
section
variable {prog : Program} {w : World} {A : Around} {E : Value → Shared → Prop} {s : Shared}
theorem call_boolIn {x : Value} {S : PySem.Spec} {Q : Value → Shared → Prop} (g : MeetsIn prog w (Builtin.«bool.__new__» ⟨[.type "bool", x], []⟩) S) (h : S A.in1 (wants (fun obj s₁ => s₁.TypeIs obj "bool" ∧ Q obj s₁) E) s) :
    wpAny (model prog w) A (call (.type "bool") [x]) Q E s := by
  have ft := F.called_bool
  obtain ⟨c, tl, hmro⟩ := ft.mro
  have hmade := ft.made
  have hsub := ft.sub
  refine wpAny_call (codeAny_of_tree ?_)
  show wpAny _ _ (callAny (.type "bool") _) _ _ _
  refine wpAny_pure ⟨Code.quiet_builtin _ (by decide +kernel), codeAny_builtin F.entry_type_call ?_⟩
  rw [Around.under_plain (weight_type_call_type "bool" [x] []) (units_type_call_type "bool" [x] [])]
  have h1 := ft.notType
  have h2 := ft.canCreate
  have hct := F.typeCall_bool_1 x
  repeat (any_goals (first | assumption | wp_step))
  refine codeAny_mono (codeAny_call_builtin ft.plain F.entry_bool_new (wpAny_of_eq (F.newCall_bool_1 x) (g A.in1 _ s h))) fun r s₁ hr => ?_
  cases r with
  | error e => exact hr
  | ok fl =>
    cases fl with
    | ret obj =>
      obtain ⟨hT, hq⟩ := hr
      have hli := ft.init.lookup
      have hbi := ft.init.bind obj
      repeat (any_goals (first | assumption | wp_step))
      refine codeAny_mono (codeAny_call_builtin ft.init.plain F.entry_object_init (ft.init.check _ _ _ _ _ _ _ _ hT (F.args_object_init_2 obj x) (object_init_meets ft.init.lookup ft.made F.newNe_bool prog w A.in1 (wants (fun r s₂ => r = .none ∧ Q obj s₂) E) s₁ ⟨hT, rfl, hq⟩))) fun r₂ s₂ hr₂ => ?_
      cases r₂ with
      | error e => exact hr₂
      | ok fl₂ =>
        cases fl₂ with
        | ret r =>
          obtain ⟨rfl, hq⟩ := hr₂
          repeat (any_goals (first | assumption | wp_step))
        | _ => exact hr₂.elim
    | _ => exact hr.elim
theorem call_boolT {x : Value} {Q : Value → Shared → Prop} (hx : ∀ b, x ≠ .bool b) (h : wpAny (model prog w) A.in1.in1 (truthy x) (fun b s' => Q (.bool b) s') E s) : wpAny (model prog w) A (call (.type "bool") [x]) Q E s := by
  refine call_boolIn (S := fun A R s => wpAny (model prog w) A.in1 (truthy x) (fun b s' => R (.ok (.ret (.bool b))) s') (fun e s' => R (.error e) s') s) (MeetsIn.of_wp fun A R s hs => ?_) ?_
  · have f1 := F.conv_sub_bool
    unfold Builtin.«bool.__new__»
    refine wpAny_bind (m := isType (.type "bool")) (wpAny_of_eq rfl ?_)
    refine wpAny_bind (m := isSubtype (.type "bool") (.type "bool")) (wpAny_of_eq f1 ?_)
    refine wpAny_bind (m := someArgs "bool" 0 1 _) (wpAny_pure ?_)
    exact wpAny_bind (wpAny_mono hs (fun b s' q => wpAny_pure ⟨_, rfl, q⟩) fun _ _ z => z)
  · exact wpAny_mono h (fun b s' q => ⟨PySem.typeIs_bool _ _, q⟩) fun _ _ z => z
end

section
variable {X : Cx} {k : Nat} {C f : Addr} {fd : FuncData} {ps : List Str} {α β γ : Type} {iα : Rp α} {iβ : Rp β} {iγ : Rp γ}
def rOwnBool (C : Addr) (sp : Sp) : List V → Hp → VK → Prop := fun xs H Q => ∃ x, xs = [x] ∧ IsI H C x ∧ sp [x] H (fun z H' => ∃ b, z = .bl b ∧ Q (.bl b) H') E0
/-- bool(o) by __bool__ -/
theorem boolw_own {Φ : α × Unit → Pt Bool} (hα : InsR X.K iα C) (F : FnOk X.prog X.w X.K X.mg X.base (L2.CX X.prog X.w) k f fd ps (spOf X.K rs0 (as1 iα) rpB Φ)) (hb : Binds X.K fd ps []) (hr : Room (k + 2) X.A)
    (hs : PySem.W.findIn X.K (.ref C) "__bool__" = some (some (.ref f))) (hf : PySem.W.isFn X.K (.ref f) = true) :
    CallW X (.type "bool") (as1 iα) rpB (rOwnBool C (spOf X.K rs0 (as1 iα) rpB Φ)) (fun a post _ => Φ (a.1, ()) post (fun _ => False)) := by
  refine ⟨fun pins s σ H xs us Q I r h => ?_, fun rs G H vs x post ep Q w ha φ k => ?_⟩
  · obtain ⟨x, rfl, ⟨p, dx, fs, rfl, h1⟩, h⟩ := h
    obtain ⟨u, rfl, ru⟩ := vals1 r
    cases ru
    obtain ⟨ox, od, J⟩ := inst_at I h1
    obtain ⟨m, hF⟩ := I.fr
    refine call_boolT (fun _ z => nomatch z) (PySem.W.truthy_K hF I.ok.mod.kin J hs hf ?_)
    refine thn (own_run (vs := [.ref p]) (show Room k X.A.in1.in1 from (hr.in1).in1) rfl F hb I (.cons rfl .nil) h) fun v s' z => ?_
    obtain ⟨z, H', I', r, b, rfl, q⟩ := z
    cases r
    exact ⟨.bl b, H', I', rfl, q⟩
  · obtain ⟨v, rfl, hv⟩ := one1 ha
    exact ⟨v, rfl, hα.is w.s hv, sp_use w (.cons (.val hv) .nil) φ fun G' H' z m g r p => ⟨m, r, k G' H' _ m g rfl p⟩⟩
end

/-! ### n * o -/
theorem int_mul_inst (a : Int) (t : Tok) (p C dx : Addr) :
    Meets (Builtin.«int.__mul__» ⟨[.int a t, .ref p], []⟩) (fun _ R s => s.heap.get? p = some (PySem.W.instObj C dx) ∧ R (.ok (.ret Value.notImplemented)) s) :=
  .of_wp fun prog w A R s h => by obtain ⟨hp, g, d, tk, os⟩ := s; obtain ⟨hl, h⟩ := h; unfold PySem.W.instObj at hl; wp_walk; exact ⟨_, rfl, h⟩
section
open PySem.W PySem.Calls
variable {prog : Program} {w : World} {A : Around} {E : Value → Shared → Prop} {s : Shared} {K : PySem.W.Frag} {x C L f f' dx : Addr} {h₀ : Heap} {m : Str → Option Value} {od : Option Obj}
theorem int_mul_decl {n : Int} {t : Tok} {R : Shared → Prop} (hx : s.heap.get? x = some (PySem.W.instObj C dx)) (h : R s) :
    wpAny (model prog w) A (call (.builtin "int.__mul__") [.int n t, .ref x]) (fun v s' => v = .notImplemented ∧ R s') E s :=
  PySem.call_meets PySem.F.slot_int_mul (PySem.typeIs_int _ _ _) PySem.F.entry_int_mul (PySem.F.args_int_mul_2 _ _) (int_mul_inst n t x C dx) ⟨hx, rfl, h⟩
theorem int_mul_try {n : Int} {t : Tok} {R : Option Value → Shared → Prop} (hx : s.heap.get? x = some (PySem.W.instObj C dx)) (h : R none s) :
    wpAny (model prog w) A (tryMethod (.int n t) (PySem.dunder "mul") (.ref x)) R E s :=
  @PySem.wpAny_tryMethod_declines (model prog w) A E s (.int n t) (.ref x) "int" (PySem.dunder "mul") "int.__mul__" R (PySem.typeIs_int _ _ _) PySem.F.slot_int_mul (int_mul_decl (R := fun s' => R none s') hx h)
theorem refl_mul {n : Int} {t : Tok} {Q : Value → Shared → Prop} (F : Fr h₀ L s.heap m) (X₀ : K.In h₀) (J : InstAt s.heap x (PySem.W.instObj C dx) C od) (hc : selfFirst K C = true)
    (hm : PySem.W.findIn K (.ref C) (PySem.dunder "mul") = some (some (.ref f))) (hs : PySem.W.findIn K (.ref C) (dunderR "mul") = some (some (.ref f'))) (hf : PySem.W.isFn K (.ref f') = true) (hsub : subIn K (.ref C) (.type "int") = some false)
    (h : wpAny (model prog w) A (call (.ref f') [.ref x, .int n t]) (PySem.W.CmpBack Q) E s) : wpAny (model prog w) A (binaryOp .Mult (.int n t) (.ref x)) Q E s := by
  have X := X₀.keeps F.keep
  obtain ⟨cd, rest, hcd, hmr⟩ := ksp_first hc
  have one := ksp_try X J hs hf h
  have hx := J.at_
  obtain ⟨hh, gg, d, tt, os⟩ := s
  have L1 : Looks (model prog w) hh (typeOf (.ref x)) (.ref C) := J.type
  have L3 : Looks (model prog w) hh (fillsNumberSlot (.ref C) "mul") true := fills_K X hcd hmr hm
  have L4 : Looks (model prog w) hh (fillsNumberSlot (.type "int") "mul") true := Looks.of_pure PySem.F.fills_int_mul
  have L5 : Looks (model prog w) hh (isSubtype (.ref C) (.type "int")) false := looks_subIn X hsub
  have L7 : Looks (model prog w) hh (numberSlotInPython (.type "int") "mul") false := Looks.of_pure rfl
  have hne : (Value.type "int" == Value.ref C) = false := Bool.eq_false_iff.mpr fun q => by cases beq_iff_eq.mp q
  unfold binaryOp
  refine wpAny_holding (wpAny_bind ?_)
  show wpAny _ _ (binaryOp1 "mul" _ _) _ _ _
  unfold binaryOp1
  refine wpAny_bind (wpAny_of_eq (show typeOf (.int n t) = pure (.type "int") from rfl) (wpAny_bind (L1.at (wpAny_bind (L4.at ?_)))))
  simp only [hne, Bool.false_eq_true, if_false]
  refine wpAny_bind (L3.at ?_)
  simp only [Bool.and_self, if_true]
  refine wpAny_bind (L5.at ?_)
  simp only [Bool.false_eq_true, if_false]
  ksp_lk
  refine int_mul_try hx ?_
  show wpAny _ _ (tryMethod (Value.ref x) (dunderR "mul") (Value.int n t) >>= _) _ _ _
  refine wpAny_bind (wpAny_mono one (fun r s' hr' => ?_) fun _ _ e => e)
  obtain ⟨v, rfl, hq⟩ := hr'
  refine wpAny_bind (wpAny_rule (wpAny_pure ?_))
  exact wpAny_pure hq
end
section
variable {X : Cx} {k : Nat} {C f f' : Addr} {fd : FuncData} {ps : List Str} {α β γ : Type} {iα : Rp α} {iβ : Rp β} {iγ : Rp γ}
def rOwnR (C : Addr) (sp : Sp) : R2 := fun x y H Q => IsI H C y ∧ (∃ n, x = .int n) ∧ sp [y, x] H Q E0
/-- n * o by __rmul__ -/
theorem rmulw_own {Φ : α × Int × Unit → Pt γ} (hα : InsR X.K iα C) (F : FnOk X.prog X.w X.K X.mg X.base (L2.CX X.prog X.w) k f' fd ps (spOf X.K rs0 (as2 iα rpI) iγ Φ)) (hb : Binds X.K fd ps []) (hr : Room k X.A)
    (hsf : PySem.W.selfFirst X.K C = true) (hm : PySem.W.findIn X.K (.ref C) (PySem.dunder "mul") = some (some (.ref f))) (hs : PySem.W.findIn X.K (.ref C) (PySem.dunderR "mul") = some (some (.ref f'))) (hf : PySem.W.isFn X.K (.ref f') = true) (hsub : PySem.W.subIn X.K (.ref C) (.type "int") = some false) :
    OpW X (binaryOp .Mult) rpI iα iγ (rOwnR C (spOf X.K rs0 (as2 iα rpI) iγ Φ)) (fun a b post _ => Φ (b, a, ()) post (fun _ => False)) := by
  refine ⟨fun pins s σ H x y v u Q I rx ry h => ?_, fun rs G H x y a b post ep Q w hx hy φ k => ⟨hα.is w.s hy, ⟨a, hx⟩, sp_use w (.cons (.val hy) (.cons (.val hx) .nil)) φ k⟩⟩
  obtain ⟨⟨p, dx, fs, rfl, hp1⟩, ⟨n, rfl⟩, h⟩ := h
  obtain ⟨t, rfl⟩ := rx
  cases ry
  obtain ⟨mA, J, _⟩ := ins_get I.hok hp1
  obtain ⟨od, J, _⟩ := J.look
  obtain ⟨m, hF⟩ := I.fr
  refine refl_mul hF I.ok.mod.kin J hsf hm hs hf hsub ?_
  exact thn (own_run (vs := [.ref p, .int n]) hr rfl F hb I (.cons rfl (.cons ⟨t, rfl⟩ .nil)) h) fun v s' z => back_of z
end

/-! ### isinstance -/
/-- a class as an argument -/
def rpC (c : V) : Rp Unit := ⟨fun _ _ v _ => v = c, fun _ h => h⟩
def TyV (K : Fg) {α : Type} (i : Rp α) (t : Value) : Prop := ∀ (G H : Hp) (v : V) (m : α), Ex G H → i.rp K G v m → TyX K H v t
theorem tyI {K : Fg} : TyV K rpI (.type "int") := fun G H v m e h => by
  obtain rfl : v = .int m := h
  exact .base (.int m)
theorem tyB {K : Fg} : TyV K rpB (.type "bool") := fun G H v m e h => by
  obtain rfl : v = .bl m := h
  exact .base (.bl m)
theorem tyS {K : Fg} : TyV K rpS (.type "str") := fun G H v m e h => by
  obtain rfl : v = .str m := h
  exact .base (.str m)
theorem tyN {K : Fg} : TyV K rpN (.type "NoneType") := fun G H v m e h => by
  obtain rfl : v = .non := h
  exact .base .non
theorem tyL {K : Fg} {α : Type} {i : Rp α} : TyV K (rpL (i := i)) (.type "list") := fun G H v m e h => by
  obtain ⟨a, vs, rfl, h1, _⟩ := h
  exact .base (.lst (e _ _ h1))
theorem tySqT {K : Fg} {G H : Hp} {a : Addr} {xs : List V} (e : Ex G H) (h : SqT K G a xs) : TyX K H (.ref a) (.type "tuple") := by
  rcases e.st h with (h | ⟨o, h⟩) | ⟨o, its, n, h1, h2, _⟩
  · exact .base (.tup h)
  · exact .fTuple h
  · exact .kTuple h1 h2
theorem tyT {K : Fg} {α : Type} {i : Rp α} : TyV K (rpT (i := i)) (.type "tuple") := fun G H v m e h => by
  obtain ⟨a, vs, rfl, h1, _⟩ := h
  exact tySqT e h1
theorem ty2 {K : Fg} {α β : Type} {i : Rp α} {j : Rp β} : TyV K (rp2 (i := i) (j := j)) (.type "tuple") := fun G H v m e h => by
  obtain ⟨a, x, y, rfl, h1, _⟩ := h
  exact tySqT e h1
structure OwnC (K : Fg) (C : Addr) : Prop where
  cl : Cls K C
  ha : PySem.W.findIn K (.ref C) "__class__" = some (some (.builtin "object.__class__"))
  hn : PySem.W.specialIn K (.builtin "object.__class__") "__get__" = some (some (.builtin "getset_descriptor.__get__"))
  ht : PySem.W.takesIn K (.builtin "object.__class__") = some true
  hm : PySem.W.mroIn K C (.type "object") = some true
theorem tyO {K : Fg} {α : Type} {i : Rp α} {C : Addr} (hi : InsR K i C) (o : OwnC K C) : TyV K i (.ref C) := fun G H v m e h => by
  obtain ⟨p, dx, fs, rfl, h1⟩ := hi G v m h
  exact .base (.ins (e _ _ h1) o.cl o.ha o.hn o.ht o.hm)
section
variable {X : Cx} {c : Cn} {ρ : List Sl} {α : Type} {iα : Rp α} {pos : Pos}
theorem isiw {t u : Value} {cv : V} {b : Bool} (ht : TyV X.K iα t) (hc : ClsV cv u) (hk : PySem.W.kitOne X.K t u = some b) : CallW X (.builtin "isinstance") (as2 iα (rpC cv)) rpB (rIsi X.K) (fun x post _ => post b) :=
  ⟨call_isi, fun rs G H vs x post ep Q w ha φ k => by
    obtain ⟨v, v2, rfl, h1, h2⟩ := two2 ha
    obtain rfl : v2 = cv := h2
    exact ⟨v, v2, t, u, b, rfl, hc, ht _ _ _ _ w.s h1, hk, k G H _ _ (Gr.refl w) rfl φ⟩⟩
theorem e_clsB {x : Str} {n : String} (hm : X.mg x = none) (hv : bootBuiltins x = some (.type n) := by decide +kernel) (hg : Gl X x := by rfl) (hn : x ≠ "__name__" := by decide) (hd : (x == ("__debug__" : Str)) = false := by decide) : JE X c (.Name x pos) ρ (rpC (.ty n)) (tC (.ty n)) (fun post _ => post ()) :=
  ⟨pe_bltn hg hm hv rfl hn hd, fun post ep φ G H σ w E Q k hx => k G H _ _ (Gr.refl w) rfl φ⟩
theorem e_clsO {x : Str} {C : Addr} (hm : X.mg x = some (.ref C)) (hg : Gl X x := by rfl) (hd : (x == ("__debug__" : Str)) = false := by decide) : JE X c (.Name x pos) ρ (rpC (.ref C)) (tC (.ref C)) (fun post _ => post ()) :=
  e_glob hm rfl (fun _ => rfl) hg hd
end

/-! ### own dicts -/
class KeyW (α : Type) (i : Rp α) where
  key : α → Key
  out : ∀ {K : Fg} {G : Hp} {v : V} {m : α}, i.rp K G v m → v = kV (key m)
instance : KeyW Int rpI := ⟨Sum.inl, fun h => h⟩
instance : KeyW Str rpS := ⟨Sum.inr, fun h => h⟩
def valM {α : Type} (kvs : List (Key × α)) (k : Key) : Option α := (kvs.find? fun kv => decide (kv.1 = k)).map (·.2)
def putM {α : Type} (kvs : List (Key × α)) (k : Key) (v : α) : List (Key × α) :=
  if (kvs.any fun kv => decide (kv.1 = k)) = true then kvs.map (fun kv => if kv.1 = k then (kv.1, v) else kv) else kvs ++ [(k, v)]
section
variable {α : Type} {i : Rp α} {K : Fg} {G : Hp}
theorem KvAll.any (k : Key) : ∀ {vs : List (Key × V)} {ms : List (Key × α)}, KvAll i K G vs ms → (vs.any fun kv => decide (kv.1 = k)) = ms.any fun kv => decide (kv.1 = k)
  | _, _, .nil => rfl
  | _, _, .cons h t => by rw [List.any_cons, List.any_cons, KvAll.any k t, h.1]
theorem KvAll.val (k : Key) : ∀ {vs : List (Key × V)} {ms : List (Key × α)}, KvAll i K G vs ms → (valV vs k = none ∧ valM ms k = none) ∨ ∃ v m, valV vs k = some v ∧ valM ms k = some m ∧ i.rp K G v m
  | _, _, .nil => .inl ⟨rfl, rfl⟩
  | (a, x) :: vs, (b, y) :: ms, .cons h t => by
    obtain ⟨h1, h2⟩ := h
    obtain rfl : a = b := h1
    unfold valV valM
    rw [List.find?_cons, List.find?_cons]
    by_cases e : a = k
    · simp only [decide_eq_true e]
      exact .inr ⟨x, y, rfl, rfl, h2⟩
    · simp only [decide_eq_false e]
      exact KvAll.val k t
theorem KvAll.map (k : Key) {v : V} {m : α} (hv : i.rp K G v m) : ∀ {vs : List (Key × V)} {ms : List (Key × α)}, KvAll i K G vs ms → KvAll i K G (vs.map fun kv => if kv.1 = k then (kv.1, v) else kv) (ms.map fun kv => if kv.1 = k then (kv.1, m) else kv)
  | _, _, .nil => .nil
  | (a, x) :: vs, (b, y) :: ms, .cons h t => by
    obtain ⟨h1, h2⟩ := h
    obtain rfl : a = b := h1
    refine .cons ?_ (KvAll.map k hv t)
    by_cases e : a = k
    · simp only [if_pos e]
      exact ⟨trivial, hv⟩
    · simp only [if_neg e]
      exact ⟨trivial, h2⟩
theorem KvAll.append : ∀ {vs us : List (Key × V)} {ms ns : List (Key × α)}, KvAll i K G vs ms → KvAll i K G us ns → KvAll i K G (vs ++ us) (ms ++ ns)
  | _, _, _, _, .nil, h => h
  | _, _, _, _, .cons a t, h => .cons a (KvAll.append t h)
theorem KvAll.put {k : Key} {v : V} {m : α} {vs : List (Key × V)} {ms : List (Key × α)} (h : KvAll i K G vs ms) (hv : i.rp K G v m) : KvAll i K G (putK vs k v) (putM ms k m) := by
  unfold putK putM
  rw [h.any k]
  split
  · exact h.map k hv
  · exact h.append (.cons ⟨rfl, hv⟩ .nil)
theorem KvAll.keys : ∀ {vs : List (Key × V)} {ms : List (Key × α)}, KvAll i K G vs ms → vs.map (·.1) = ms.map (·.1)
  | _, _, .nil => rfl
  | _, _, .cons h t => by rw [List.map_cons, List.map_cons, KvAll.keys t, h.1]
end
section
variable {X : Cx} {c : Cn} {ρ : List Sl} {S L β α κ : Type} {out : S → List Sl} {lp : L → List Sl} {i : Rp β} {iα : Rp α} {iκ : Rp κ} {pos : Pos} {rest : List Stmt} {tr : TS} {e : Expr} {te : TE} {Φe : Pt α}
/-- x = {} -/
theorem b_newD (iα : Rp α) (j : Nat) {x : Str} {px p1 : Pos} {Φr : Pt (Out S L β)} (hN : X.N.Nodup) (hr : JB X c rest (ρ.set j (.md iα [])) out lp i tr Φr) (hj : X.N[j]? = some x := by rfl) (hx : Loc X.env.scope x := by first | exact Or.inl rfl | exact Or.inr rfl)
    (hs : swapsWith (.Dict [] [] p1) (some (.Name x px)) pos.line X.env = pure false := by rfl) (hf : X.fn x = true ∨ X.env.scope.names.lookup x = some .local := by first | exact .inl rfl | exact .inr rfl) :
    JB X c (.Assign [.Name x px] (.Dict [] [] p1) pos :: rest) ρ out lp i (tSeq (tAsg tDNewK (gName j)) tr) Φr := by
  refine ⟨pss_cons (ps_set hN hj hx pe_dnewK hs hf) hr.pe, fun post ep φ G H σ g E D k hx => ?_⟩
  refine fun p hp => ?_
  have gn := gr_newH (o := .dK []) g.w hp
  have h0 : c.H0 p = none := by
    by_cases q : c.H0 p = none
    · exact q
    · exact absurd hp (g.t p q)
  have hg : G p = none := by
    cases e : G p with
    | none => rfl
    | some u =>
      have := g.w.s p u e
      rw [hp] at this
      cases this
  refine hr.sem _ _ φ G _ _ (g.trans gn) ((E.up gn).setOwn (x := .md iα []) ⟨p, [], rfl, upd_same, .nil, h0, hg, not_new g.w hp⟩ fun q y _ ey oy sy => ?_) D k hx
  exact absurd hp (E.own_some ey oy sy)
/-- x[k] = e -/
theorem b_putD {ke : Expr} {tk : TE} {Φk : Pt κ} [kw : KeyW κ iκ] [Nonempty α] [Nonempty κ] {xs : List (Key × α)} (j : Nat) {x : Str} {px pa : Pos} {Φr : α → κ → Pt (Out S L β)} (hρ : ρ[j]? = some (.md iα xs)) (hu : X.A.units + 1 < cLine) (he : JE X c e ρ iα te Φe) (hk : JE X c ke ρ iκ tk Φk)
    (hr : ∀ m k, JB X c rest (ρ.set j (.md iα (putM xs (kw.key k) m))) out lp i tr (Φr m k)) (hN : X.N[j]? = some x := by rfl) (hv : Vis X.env.scope x := by first | exact Or.inl rfl | exact Or.inr (Or.inl rfl) | exact Or.inr (Or.inr rfl)) (hd : (x == ("__debug__" : Str)) = false := by decide) (hcd : (x == ("__classdict__" : Str)) = false := by decide)
    (hs : swapsWith e (some (.Subscript (.Name x px) ke pa)) pos.line X.env = pure false := by rfl) :
    JB X c (.Assign [.Subscript (.Name x px) ke pa] e pos :: rest) ρ out lp i (tSeq (sDPut (tVar j) tk te) tr) (fun post ep => Φe (fun m => Φk (fun k => xs.length < sizeLine ∧ Φr m k post ep) ep) ep) := by
  refine ⟨pss_cons (ps_dput hu (pe_var hN hv hd hcd) hk.pe he.pe hs) (hr (Classical.choice inferInstance) (Classical.choice inferInstance)).pe, fun post ep φ G H σ g E D k hx => ?_⟩
  refine he.sem _ _ φ G H σ g.w E _ (fun G1 H1 v m g1 r p => ?_) (hx.at g)
  obtain ⟨l, vs, h1, h2, h3, h4, h5, h6⟩ := (E.up g1).ok j _ hρ
  refine ⟨.ref l, h1, ?_⟩
  refine hk.sem _ _ p G1 H1 σ g1.w (E.up g1) _ (fun G2 H2 kv km g2 r2 p2 => ?_) (hx.at (g.trans g1))
  have g12 := g1.trans g2
  obtain ⟨l', vs', h1', h2', h3', h4', h5', h6'⟩ := (E.up g12).ok j _ hρ
  rw [h1] at h1'
  cases h1'
  obtain rfl := kw.out r2
  have hlen := h3'.length
  refine ⟨l, _, rfl, DPut.k h2' (by rw [hlen]; exact p2.1), ?_⟩
  have gm := gr_mut (o := .dK (putK vs' (kw.key km) v)) (g.trans g12) h4' h5' h6' (some_ne h2')
  have es : ∀ a, c.rs.S H2 a → upd H2 l (.dK (putK vs' (kw.key km) v)) a = H2 a := fun a ha => upd_ne fun z => h6' (z ▸ ha)
  refine (hr m km).sem _ _ p2.2 G2 _ σ gm ((E.up g12).mut g12.w hρ rfl h1 h2' h6' (fun a z => by cases z) (x := .md iα (putM xs (kw.key km) m)) ⟨l, putK vs' (kw.key km) v, rfl, upd_same, h3'.put (Rp.mono g2.g r), h4', h5', fun z => h6' (((c.rs.loc g12.w.i es).2 l).mp z)⟩) D (k.up g12.g) hx
/-- k in x, x an own dict -/
theorem e_inD {ke : Expr} {tk : TE} {Φk : Pt κ} [kw : KeyW κ iκ] {xs : List (Key × α)} {px : Pos} (j : Nat) {x : Str} (hρ : ρ[j]? = some (.md iα xs)) (hu : X.A.units + 1 < cLine) (hk : JE X c ke ρ iκ tk Φk) (hN : X.N[j]? = some x := by rfl) (hv : Vis X.env.scope x := by first | exact Or.inl rfl | exact Or.inr (Or.inl rfl) | exact Or.inr (Or.inr rfl))
    (hd : (x == ("__debug__" : Str)) = false := by decide) (hcd : (x == ("__classdict__" : Str)) = false := by decide) (h1 : behindInMarks .In (.Name x px) = false := by rfl) : JE X c (.Compare ke [.In] [.Name x px] pos) ρ rpB (tDIn tk (tVar j)) (fun post ep => Φk (fun k => post (valM xs (kw.key k)).isSome) ep) := by
  refine ⟨pe_cmp (pc_din hu hk.pe (pe_var hN hv hd hcd)) h1, fun post ep φ G H σ w E Q k hx => ?_⟩
  refine hk.sem _ _ φ G H σ w E _ (fun G1 H1 v m g r p => ?_) hx
  obtain ⟨l, vs, h1, h2, h3, h4, h5, h6⟩ := (E.up g).ok j _ hρ
  obtain rfl := kw.out r
  refine ⟨.ref l, h1, l, valV vs (kw.key m), rfl, DGet.k h2, k _ _ _ _ g ?_ p⟩
  rcases h3.val (kw.key m) with ⟨e1, e2⟩ | ⟨v, u, e1, e2, _⟩
  · show V.bl _ = V.bl _
    rw [e1, e2]; rfl
  · show V.bl _ = V.bl _
    rw [e1, e2]; rfl
/-- sorted(x) of an own dict's ints -/
def rSrtD : List V → Hp → VK → Prop := fun xs H Q => ∃ (a : Addr) (kvs : List (Key × V)) (ks : List Int), xs = [.ref a] ∧ Rd H a (.dK kvs) ∧ kvs.map (·.1) = ks.map Sum.inl ∧ ks.length < 64 ∧
    ∀ (ys : List Int) (p : Addr), ys.Perm ks → ys.Pairwise (· ≤ ·) → H p = none → Q (.ref p) (upd H p (.lst (ys.map V.int)))
theorem rp_ints {K : Fg} {G : Hp} : ∀ ns : List Int, RpAll rpI K G (ns.map V.int) ns
  | [] => .nil
  | n :: ns => .cons rfl (rp_ints ns)
theorem e_srtD {xs : List (Key × α)} {p px : Pos} (j : Nat) {x : Str} (hρ : ρ[j]? = some (.md iα xs)) (hc : X.calm = true) (hm : X.mg "sorted" = none) (hN : X.N[j]? = some x := by rfl) (hv : Vis X.env.scope x := by first | exact Or.inl rfl | exact Or.inr (Or.inl rfl) | exact Or.inr (Or.inr rfl))
    (hd : (x == ("__debug__" : Str)) = false := by decide) (hcd : (x == ("__classdict__" : Str)) = false := by decide) (hbv : bootBuiltins "sorted" = some (.builtin "sorted") := by decide +kernel) (hg : Gl X "sorted" := by rfl)
    (he : starEach [.Name x px] X.env = [(false, eval (.Name x px) X.env)] := by rfl) (hpl : (backTo pos (starEach ([] : List Expr) X.env)).any (·.1) = false := by rfl) :
    JE X c (.Call (.Name "sorted" p) [.Name x px] [] pos) ρ (rpL (i := rpI)) (tCB rSrtD (tCons (tVar j) tNil)) (fun post _ => ∃ ks : List Int, xs.map (·.1) = ks.map Sum.inl ∧ ks.length < 64 ∧ ∀ ys : List Int, ys.Perm ks → ys.Pairwise (· ≤ ·) → post ys) := by
  refine ⟨pe_callB (call_sortedDI hc) hg hm hbv (pa_cons (pe_var hN hv hd hcd) pa_nil he) (by decide) (by decide) he hpl, fun post ep φ G H σ w E Q k hx => ?_⟩
  obtain ⟨l, vs, h1, h2, h3, h4, h5, h6⟩ := E.ok j _ hρ
  obtain ⟨ks, e1, e2, φ⟩ := φ
  refine ⟨.ref l, h1, l, vs, ks, rfl, .inl h2, h3.keys.trans e1, e2, fun ys p hp hs hn => ?_⟩
  have gn := gr_new (o := .lst (ys.map V.int)) w hn
  refine k _ _ _ _ gn ⟨p, _, rfl, upd_same, rp_ints ys, ?_⟩ (φ ys hp hs)
  rw [List.length_map, hp.length_eq, sizeLine_eq]
  omega
end
end Ty

set_option Elab.async false
set_option linter.all false
set_option maxRecDepth 100000
set_option maxHeartbeats 1000000
set_option autoImplicit false
/-! Bx: the law's script; the box [[cells], number, seed, count] of the laws k04, k05, k06 as a resource -/
namespace Ty
open PySem PySem.Spec PyProof.Rows L2

/-- the law's script -/
abbrev rpQ : Rp (List Int) := ⟨fun K G v ns => ∃ a, v = .ref a ∧ SqL K G a (ns.map V.int) ∧ ns.length ≤ sizeLine, fun e h => by
  obtain ⟨a, h1, h2, h3⟩ := h
  exact ⟨a, h1, e.sl h2, h3⟩⟩
theorem sl_Q {X : Cx} : SlW X rpQ (rpL (i := rpI)) (rSlL X.K) (fun xs lo hi post _ => post (cutL xs lo hi)) :=
  ⟨sl_list, fun rs G H x a lo hi post ep Q w r φ k => by
    obtain ⟨l, rfl, h1, h3⟩ := r
    refine ⟨l, _, rfl, w.s.sl h1, fun p hp => ?_⟩
    have g := gr_new (o := .lst (cutV (a.map V.int) lo hi)) w hp
    exact k _ _ _ _ g ⟨p, _, rfl, upd_same, RpAll.cut (rp_ints a) lo hi, Nat.le_trans (cutV_length _ _ _) (by rw [List.length_map]; exact h3)⟩ φ⟩

/-! ### the box -/
/-- a new box, known for good -/
abbrev rpBx : Rp Unit := ⟨fun _ G v _ => ∃ (p l : Addr) (x y z : Int) (ns : List Int), v = .ref p ∧ G p = some (.lst [.ref l, .int x, .int y, .int z]) ∧ G l = some (.lst (ns.map V.int)), fun e h => by
  obtain ⟨p, l, x, y, z, ns, h1, h2, h3⟩ := h
  exact ⟨p, l, x, y, z, ns, h1, e _ _ h2, e _ _ h3⟩⟩
theorem ints_of {K : Fg} {G : Hp} : ∀ {vs : List V} {ns : List Int}, RpAll rpI K G vs ns → vs = ns.map V.int
  | _, _, .nil => rfl
  | _, _, .cons h t => by
    rw [List.map_cons, ints_of t]
    have h2 : _ = V.int _ := h
    rw [h2]
theorem three3 {K : Fg} {G : Hp} {vs : List V} {α β γ : Type} {i : Rp α} {j : Rp β} {k : Rp γ} {m : α} {n : β} {o : γ} (h : ArgsOk K G vs [.val i m, .val j n, .val k o]) : ∃ v u z, vs = [v, u, z] ∧ i.rp K G v m ∧ j.rp K G u n ∧ k.rp K G z o := by
  cases h with
  | cons h t =>
    obtain ⟨u, z, rfl, h2, h3⟩ := two2 t
    cases h with
    | val h => exact ⟨_, u, z, rfl, h, h2, h3⟩
theorem e_bx {X : Cx} {c : Cn} {ρ : List Sl} {es : List Expr} {t : TA} {pos : Pos} {Φ : Pt (List Int × Int × Int × Int × Unit)} (h : JA X c es ρ (aCons (rpL (i := rpI)) (aCons rpI (aCons rpI (aCons rpI aNil)))) t Φ) : JE X c (.List es pos) ρ rpBx (tLst t) (fun post ep => Φ (fun _ => post ()) ep) := by
  refine ⟨pe_lst h.pe, fun post ep φ G H σ w E Q k hx => h.sem _ _ φ G H σ w E _ (fun G1 H1 vs x g1 r1 p => ?_) hx⟩
  obtain ⟨xl, x1, x2, x3, u⟩ := x
  cases r1 with
  | cons a r1 =>
    obtain ⟨v1, v2, v3, rfl, rfl, rfl, rfl⟩ := three3 (i := rpI) (j := rpI) (k := rpI) r1
    cases a with
    | val a =>
      obtain ⟨l, ws, rfl, e1, e2, e3⟩ := a
      rw [ints_of e2] at e1
      refine ⟨by rw [sizeLine_eq]; simp, fun q hq => ?_⟩
      have g := gr_new (o := .lst [.ref l, .int x1, .int x2, .int x3]) g1.w hq
      exact k _ _ _ _ (g1.trans g) ⟨q, l, x1, x2, x3, xl, rfl, upd_same, g.g _ _ e1⟩ p

/-- the resource -/
def bxS (q : Addr) (H : Hp) (a : Addr) : Prop := a = q ∨ ∃ t, H q = some (.lst (.ref a :: t))
def bxI (q : Addr) (H : Hp) : Prop := ∃ (l : Addr) (x y z : Int) (ns : List Int), H q = some (.lst [.ref l, .int x, .int y, .int z]) ∧ H l = some (.lst (ns.map V.int))
def rsB (q : Addr) : Rs := ⟨bxS q, bxI q, by
  intro H H' i k
  obtain ⟨l, x, y, z, ns, h1, h2⟩ := i
  have e1 : H' q = H q := k q (.inl rfl)
  have e2 : H' l = H l := k l (.inr ⟨_, h1⟩)
  refine ⟨⟨l, x, y, z, ns, e1.trans h1, e2.trans h2⟩, fun a => ?_⟩
  unfold bxS
  rw [e1], by
  intro H a i s
  obtain ⟨l, x, y, z, ns, h1, h2⟩ := i
  rcases s with rfl | ⟨t, s⟩
  · exact some_ne h1
  · rw [h1] at s
    cases s
    exact some_ne h2⟩
theorem gr_bx {q l : Addr} {G H H' : Hp} {x y z : Int} {ns : List Int} (w : Wd (rsB q) G H) (hq : H' q = some (.lst [.ref l, .int x, .int y, .int z])) (hl : H' l = some (.lst (ns.map V.int))) (hn : bxS q H l ∨ H l = none)
    (keep : ∀ a o, a ≠ q → H a = some o → H' a = some o) : Gr (rsB q) G H G H' := by
  have nG : ∀ a, bxS q H a ∨ H a = none → G a = none := fun a h => by
    rcases h with h | h
    · exact w.n a h
    · cases e : G a with
      | none => rfl
      | some u =>
        have := w.s a u e
        rw [h] at this
        cases this
  have fS : ∀ a, bxS q H' a → bxS q H a ∨ H a = none := fun a s => by
    rcases s with rfl | ⟨t, s⟩
    · exact .inl (.inl rfl)
    · rw [hq] at s
      cases s
      exact hn
  refine ⟨Ex.refl _, fun a o hs e => keep a o (fun z => hs (.inl z)) e, fun a e => ?_, fun a _ h => h, fS, ⟨fun a o e => ?_, ⟨l, x, y, z, ns, hq, hl⟩, fun a s => nG a (fS a s)⟩⟩
  · by_cases z : a = q
    · rw [z]
      exact some_ne hq
    · cases e2 : H a with
      | none => exact absurd e2 e
      | some o => exact some_ne (keep a o z e2)
  · refine keep a o (fun z => ?_) (w.s a o e)
    rw [z, nG q (.inl (.inl rfl))] at e
    cases e
section
variable {X : Cx} {c : Cn} {ρ : List Sl} {q : Addr} {x : Str} {px pk pos : Pos}
/-- box[k] of a number -/
theorem e_bxI {k : Int} {jj : Nat} (j : Nat) (hc : c.rs = rsB q) (hρ : ρ[j]? = some (.rf q)) (hk : k = 1 ∨ k = 2 ∨ k = 3) (hN : X.N[j]? = some x := by rfl) (hv : Vis X.env.scope x := by first | exact Or.inl rfl | exact Or.inr (Or.inl rfl) | exact Or.inr (Or.inr rfl))
    (hd : (x == ("__debug__" : Str)) = false := by decide) (hcd : (x == ("__classdict__" : Str)) = false := by decide) (hs : PlainIxT (.Constant (.int k) jj pk) := by exact fun _ _ => rfl) : JE X c (.Subscript (.Name x px) (.Constant (.int k) jj pk) pos) ρ rpI (tOp (rIxL X.K) (tVar j) (tC (.int k))) (fun post _ => ∀ n : Int, post n) := by
  refine ⟨pe_ix ix_list (pe_var hN hv hd hcd) pe_int hs, fun post ep φ G H σ w E Q kk hx => ?_⟩
  have I := w.i
  rw [hc] at I
  obtain ⟨l, a, b, d, ns, h1, h2⟩ := I
  refine ⟨.ref q, E.ok j _ hρ, ?_⟩
  rcases hk with rfl | rfl | rfl
  · exact ⟨q, _, 1, .int a, rfl, rfl, SqL.of h1, rfl, kk G H _ a (Gr.refl w) rfl (φ a)⟩
  · exact ⟨q, _, 2, .int b, rfl, rfl, SqL.of h1, rfl, kk G H _ b (Gr.refl w) rfl (φ b)⟩
  · exact ⟨q, _, 3, .int d, rfl, rfl, SqL.of h1, rfl, kk G H _ d (Gr.refl w) rfl (φ d)⟩
variable {S L β : Type} {out : S → List Sl} {lp : L → List Sl} {i : Rp β} {rest : List Stmt} {tr : TS} {e : Expr} {te : TE} {Φe : Pt Int} {Φr : Pt (Out S L β)} {ps : Pos}
/-- box[k] = a number -/
theorem b_bxSet {k : Int} {jj : Nat} (j : Nat) (hc : c.rs = rsB q) (hρ : ρ[j]? = some (.rf q)) (hk : k = 1 ∨ k = 2 ∨ k = 3) (he : JE X c e ρ rpI te Φe) (hr : JB X c rest ρ out lp i tr Φr) (hN : X.N[j]? = some x := by rfl) (hv : Vis X.env.scope x := by first | exact Or.inl rfl | exact Or.inr (Or.inl rfl) | exact Or.inr (Or.inr rfl))
    (hd : (x == ("__debug__" : Str)) = false := by decide) (hcd : (x == ("__classdict__" : Str)) = false := by decide)
    (ha : ∀ v, assign (.Subscript (.Name x px) (.Constant (.int k) jj pk) pos) X.env v = (do
      let ov ← holding [v] (eval (.Name x px) X.env)
      let iv ← holding [v, ov] (eval (.Constant (.int k) jj pk) X.env)
      standAt pos
      holding [v, ov, iv] (setItem ov iv v)
      release [v, ov, iv] []) := by intro _; rfl)
    (hs : swapsWithSole [.Subscript (.Name x px) (.Constant (.int k) jj pk) pos] e ps.line X.env = pure false := by rfl) (hw : swappedStores [.Subscript (.Name x px) (.Constant (.int k) jj pk) pos] e X.env = pure none := by rfl)
    (hE : (assignEach [.Subscript (.Name x px) (.Constant (.int k) jj pk) pos] X.env).map (·.2) = [assign (.Subscript (.Name x px) (.Constant (.int k) jj pk) pos) X.env] := by rfl) :
    JB X c (.Assign [.Subscript (.Name x px) (.Constant (.int k) jj pk) pos] e ps :: rest) ρ out lp i (tSeq (tAsg te (gSub (tVar j) (tC (.int k)) rSetL)) tr) (fun post ep => Φe (fun _ => Φr post ep) ep) := by
  refine ⟨pss_cons (ps_asg he.pe (pg_sub (pe_var hN hv hd hcd) pe_int set_list ha) hs hw hE) hr.pe, fun post ep φ G H σ g E D k hx => ?_⟩
  refine he.sem _ _ φ G H σ g.w E _ (fun G1 H1 v m g1 r p => ?_) (hx.at g)
  obtain rfl : v = .int m := r
  have w1 : Wd (rsB q) G1 H1 := hc ▸ g1.w
  obtain ⟨l, a, b, d, ns, h1, h2⟩ := w1.i
  have lq : l ≠ q := fun z => by
    rw [z, h1] at h2
    have h3 := Option.some.inj h2
    injection h3 with h3
    cases ns with
    | nil => cases h3
    | cons n ns => cases h3
  have fin : ∀ a' b' d' : Int, tr D σ (upd H1 q (.lst [.ref l, .int a', .int b', .int d'])) := fun a' b' d' => by
    have gb : Gr c.rs G1 H1 G1 (upd H1 q (.lst [.ref l, .int a', .int b', .int d'])) := hc ▸ gr_bx (l := l) (ns := ns) w1 upd_same (by rw [upd_ne lq]; exact h2) (.inl (.inr ⟨_, h1⟩)) (fun u o z e => by rw [upd_ne z]; exact e)
    exact hr.sem _ _ p _ _ σ ((g.trans g1).trans gb) (E.up (g1.trans gb)) D (k.up (g1.trans gb).g) hx
  refine ⟨.ref q, E.ok j _ hρ, ?_⟩
  rcases hk with rfl | rfl | rfl
  · exact ⟨q, _, 1, 1, rfl, rfl, h1, rfl, fin m b d⟩
  · exact ⟨q, _, 2, 2, rfl, rfl, h1, rfl, fin a m d⟩
  · exact ⟨q, _, 3, 3, rfl, rfl, h1, rfl, fin a b m⟩
end
end Ty

set_option Elab.async false
set_option linter.all false
set_option maxRecDepth 100000
set_option maxHeartbeats 1000000
set_option autoImplicit false
/-! By: the box is taken from; a law that makes its box first -/
namespace Ty
open PySem PySem.Spec PyProof.Rows L2

def tTake (K : Fg) (j : Nat) : TS := tIfS (tAnd (tTest (tOp (rI0 fun i j => .bl (decide (i ≤ j))) (tOp (rIxL K) (tVar j) (tC (.int 1))) (tC (.int 1)))) (tTest (tOp (rNeD K) (tOp (rIxL K) (tVar j) (tC (.int 0))) (tLst tNil))))
  (tSeq (tAsg (tOp (rIxL K) (tOp (rIxL K) (tVar j) (tC (.int 0))) (tC (.int 0))) (gSub (tVar j) (tC (.int 1)) rSetL)) (tAsg (tSl (rSlL K) (tOp (rIxL K) (tVar j) (tC (.int 0))) (tPart (tC (.int 1))) tNoPart) (gSub (tVar j) (tC (.int 0)) rSetL))) tNext
section
variable {X : Cx} {c : Cn} {ρ : List Sl} {q : Addr} {S L β : Type} {out : S → List Sl} {lp : L → List Sl} {i : Rp β} {rest : List Stmt} {st : Stmt} {tr : TS} {Φr : Pt (Out S L β)}
theorem at0 {α : Type} {x : α} {xs : List α} : atI (x :: xs) 0 = some x := by
  unfold atI ixN
  have h : (0 : Int) < ((x :: xs).length : Int) := by rw [List.length_cons]; omega
  rw [if_pos (Int.le_refl 0), if_pos h]
  rfl
theorem cut_ints (ns : List Int) (lo hi : Option Int) : ∃ ms : List Int, cutV (ns.map V.int) lo hi = ms.map V.int :=
  ⟨(ns.drop (HT.sIx (ns.map V.int).length 0 lo)).take (HT.sIx (ns.map V.int).length (ns.map V.int).length hi - HT.sIx (ns.map V.int).length 0 lo), by
    unfold cutV
    rw [List.map_take, List.map_drop]⟩
/-- if box[1] <= 1 and box[0] != []: box[1] = box[0][0]; box[0] = box[0][1:] -/
theorem b_bxTake (j : Nat) (hc : c.rs = rsB q) (hρ : ρ[j]? = some (.rf q)) (hps : PS X st (tTake X.K j)) (hr : JB X c rest ρ out lp i tr Φr) : JB X c (st :: rest) ρ out lp i (tSeq (tTake X.K j) tr) Φr := by
  refine ⟨pss_cons hps hr.pe, fun post ep φ G H σ g E D k hx => ?_⟩
  have w0 : Wd (rsB q) G H := hc ▸ g.w
  obtain ⟨l, a, b, d, ns, h1, h2⟩ := w0.i
  have hv := E.ok j _ hρ
  have hl0 : (ns.map V.int).length = ns.length := List.length_map _
  refine ⟨.ref q, hv, q, _, 1, .int a, rfl, rfl, SqL.of h1, rfl, a, 1, rfl, rfl, decide (a ≤ 1), rfl, ?_⟩
  cases hb : decide (a ≤ 1) with
  | false => exact hr.sem _ _ φ G H σ g E D k hx
  | true =>
    show tTest (tOp (rNeD X.K) (tOp (rIxL X.K) (tVar j) (tC (.int 0))) (tLst tNil)) σ H _
    refine ⟨.ref q, hv, q, _, 0, .ref l, rfl, rfl, SqL.of h1, rfl, Nat.zero_le _, fun p hp => ?_⟩
    have lp' : l ≠ p := fun z => by
      rw [z, hp] at h2
      cases h2
    have qp : q ≠ p := fun z => by
      rw [z, hp] at h1
      cases h1
    have g1 : Gr (rsB q) G H (upd G p (.lst [])) (upd H p (.lst [])) := gr_new w0 hp
    have d1 : Dp X.K (upd H p (.lst [])) (.ref l) (.list (ns.map fun n => PyData.int n)) := .lst (SqL.of (by rw [upd_ne lp']; exact h2)) (by
      have : ∀ ns : List Int, DpAll X.K (upd H p (.lst [])) (ns.map V.int) (ns.map fun n => PyData.int n) := by
        intro ns
        induction ns with
        | nil => exact .nil
        | cons n ns ih => exact .cons (.int n) ih
      exact this ns)
    have e1 : (.list (ns.map fun n => PyData.int n) : PyData) = (datL (i := rpI)).enc ns := rfl
    refine ⟨_, .list [], d1, .lst (SqL.of upd_same) .nil, ?_, by decide, !PyData.eqv (.list (ns.map fun n => PyData.int n)) (.list []), rfl, ?_⟩
    · rw [e1]
      exact shaped_of (d := datL (i := rpI)) (fun _ _ => trivial) (by decide)
    have w1 := g1.w
    have hv1 := hv
    have hq1 : upd H p (.lst []) q = some (.lst [.ref l, .int a, .int b, .int d]) := by rw [upd_ne qp]; exact h1
    have hl1 : upd H p (.lst []) l = some (.lst (ns.map V.int)) := by rw [upd_ne lp']; exact h2
    cases ns with
    | nil =>
      have : PyData.eqv (.list (([] : List Int).map fun n => PyData.int n)) (.list []) = true := by simp [PyData.eqv, PyData.eqvAll]
      rw [this]
      have g1' : Gr c.rs G H (upd G p (.lst [])) (upd H p (.lst [])) := hc ▸ g1
      exact hr.sem _ _ φ _ _ σ (g.trans g1') (E.up g1') D (k.up g1'.g) hx
    | cons n ns =>
      have : PyData.eqv (.list ((n :: ns).map fun n => PyData.int n)) (.list []) = false := by simp [PyData.eqv, PyData.eqvAll]
      rw [this]
      refine ⟨.ref q, hv, q, _, 0, .ref l, rfl, rfl, SqL.of hq1, rfl, l, _, 0, .int n, rfl, rfl, SqL.of hl1, at0, ?_⟩
      refine ⟨.ref q, hv, q, _, 1, 1, rfl, rfl, hq1, rfl, ?_⟩
      have lq : l ≠ q := fun z => by
        rw [z, h1] at h2
        cases h2
      show tAsg (tSl (rSlL X.K) (tOp (rIxL X.K) (tVar j) (tC (.int 0))) (tPart (tC (.int 1))) tNoPart) (gSub (tVar j) (tC (.int 0)) rSetL) { nx := tr D, rt := D.rt, bk := D.bk, ct := D.ct } σ (upd (upd H p (.lst [])) q (.lst [.ref l, .int n, .int b, .int d]))
      have hl2 : upd (upd H p (.lst [])) q (.lst [.ref l, .int n, .int b, .int d]) l = some (.lst ((n :: ns).map V.int)) := by rw [upd_ne lq]; exact hl1
      have g2 : Gr (rsB q) (upd G p (.lst [])) (upd H p (.lst [])) (upd G p (.lst [])) (upd (upd H p (.lst [])) q (.lst [.ref l, .int n, .int b, .int d])) :=
        gr_bx w1 upd_same hl2 (.inl (.inr ⟨_, hq1⟩)) (fun u o z e => by rw [upd_ne z]; exact e)
      refine ⟨.ref q, hv, q, _, 0, .ref l, rfl, rfl, SqL.of upd_same, rfl, 1, rfl, l, _, rfl, SqL.of hl2, fun p2 hp2 => ?_⟩
      obtain ⟨ms, em⟩ := cut_ints (n :: ns) (some 1) none
      rw [em]
      have qp2 : q ≠ p2 := fun z => by
        rw [← z, upd_same] at hp2
        cases hp2
      refine ⟨.ref q, hv, q, _, 0, 0, rfl, rfl, by rw [upd_ne qp2]; exact upd_same, rfl, ?_⟩
      have g3 : Gr (rsB q) (upd G p (.lst [])) (upd (upd H p (.lst [])) q (.lst [.ref l, .int n, .int b, .int d])) (upd G p (.lst []))
          (upd (upd (upd (upd H p (.lst [])) q (.lst [.ref l, .int n, .int b, .int d])) p2 (.lst (ms.map V.int))) q (.lst [.ref p2, .int n, .int b, .int d])) :=
        gr_bx g2.w upd_same (by rw [upd_ne qp2.symm]; exact upd_same) (.inr hp2) (fun u o z e => by
          rw [upd_ne z]
          by_cases y : u = p2
          · rw [y, hp2] at e
            cases e
          · rw [upd_ne y]
            exact e)
      have g123 := (g1.trans g2).trans g3
      have g' : Gr c.rs G H (upd G p (.lst [])) (upd (upd (upd (upd H p (.lst [])) q (.lst [.ref l, .int n, .int b, .int d])) p2 (.lst (ms.map V.int))) q (.lst [.ref p2, .int n, .int b, .int d])) := hc ▸ g123
      exact hr.sem _ _ φ _ _ σ (g.trans g') (E.up g') D (k.up g'.g) hx
end

/-! ### a law that makes its box first -/
theorem en_none {K : Fg} {rs : Rs} {H0 G H : Hp} {σ : L2.St} {n : Nat} (h : σ.length = n) : En K rs H0 G H σ (List.replicate n .no) := by
  have no : ∀ (i : Nat) (x : Sl), (List.replicate n Sl.no)[i]? = some x → x = .no := fun i x e => List.eq_of_mem_replicate (List.mem_of_getElem? e)
  refine ⟨by simp [h], fun i x e => ?_, fun i j x y l ne e1 e2 o1 o2 s1 s2 => ?_⟩
  · rw [no i x e]
    trivial
  · rw [no i x e1] at o1
    cases o1
def asgE : Stmt → Expr
  | .Assign _ e _ => e
  | _ => .Constant .none 0 ⟨0, 0, 0, 0⟩
def spL (K : Fg) (n : Nat) : Sp := fun vs H Q _ => ∃ (a : Addr) (ns : List Int), vs = [.ref a] ∧ SqL K H a (ns.map V.int) ∧ ns.length ≤ n ∧ Only H ∧ ∀ H', Q (.bl true) H'
theorem fn_okBx {P : Program} {w : World} {K : Fg} {mg : Str → Option Value} {base : Heap} {x qual : Str} {params : Arguments} {body rest : List Stmt} {s1 : Stmt} {scope : Scope} {f : Addr} {fd : FuncData} {N : List Str} {k n : Nat} {dvs : List V} {kws : List (Str × V)}
    (F : FunD K x qual params body scope dvs kws f fd) (hbd : body = s1 :: rest) (S : FnScope N ["script"] scope) (hn : n ≤ sizeLine) {Φr : Pt (Out Unit Empty Bool)} {Φe : List Int → Pt Unit}
    (hb1 : ∀ (cdv : Value) (A : Around) (outer : List Env) (s : Shared) (H : Hp) (E : XK), Room k (A.deeper (envOfC qual scope s.heap.objs.size f cdv)) →
      ∃ te, PS (Cf P w K mg base N qual scope f cdv A outer s H E) s1 (tAsg te (gName 1)) ∧ (∀ ns : List Int, JE (Cf P w K mg base N qual scope f cdv A outer s H E) (Cc rs0 H H E) (asgE s1) (.val rpQ ns :: List.replicate (N.length - 1) .no) rpBx te (Φe ns)))
    (hb2 : ∀ (cdv : Value) (A : Around) (outer : List Env) (s : Shared) (H : Hp) (E : XK), Room k (A.deeper (envOfC qual scope s.heap.objs.size f cdv)) →
      ∃ tr, ∀ (p : Addr) (H' : Hp), JB (Cf P w K mg base N qual scope f cdv A outer s H E) (Cc (rsB p) H H' E) rest ((List.replicate N.length Sl.no).set 1 (.rf p)) (fun _ : Unit => List.replicate N.length .no) (fun z : Empty => nomatch z) rpB tr Φr)
    (hΦe : ∀ ns, Φe ns (fun _ => True) (fun _ => False)) (hΦ : Φr (endP False fun b => b = true) (fun _ => False)) : FnOk P w K mg base (L2.CX P w) (k + 1) f fd ["script"] (spL K n) := by
  refine F.ok S (fun vs H Q E h => ?_) (fun cdv A outer s H vs Q E hr h => ?_)
  · obtain ⟨a, ns, rfl, _⟩ := h
    rfl
  · obtain ⟨a, ns, rfl, hS, hl, hO, hQ⟩ := h
    obtain ⟨te, hs, h1⟩ := hb1 cdv A outer s H E hr
    obtain ⟨tr, h2⟩ := hb2 cdv A outer s H E hr
    refine ⟨tSeq (tAsg te (gName 1)) tr, by rw [hbd]; exact pss_cons hs (h2 0 H).pe, ?_⟩
    have w0 : Wd rs0 H H := ⟨Ex.refl _, trivial, fun _ h => h.elim⟩
    have e0 : En K rs0 H H H (start N [.ref a]) (.val rpQ ns :: List.replicate (N.length - 1) .no) :=
      en_args (rs := rs0) (H0 := H) (H := H) (as := [.val rpQ ns]) (.cons (.val ⟨a, rfl, hS, Nat.le_trans hl hn⟩) .nil) (N.length - 1)
    refine (h1 ns).sem (fun _ => True) (fun _ => False) (hΦe ns) H H _ w0 e0 _ (fun G1 H1 v m g r _ => ?_) (fun _ _ _ _ _ _ _ z => z.elim)
    obtain ⟨p, l, a1, a2, a3, ms, rfl, p1, p2⟩ := r
    have fresh : ∀ b o, G1 b = some (.lst o) → H b = none := fun b o e => by
      rcases hO b with h | ⟨u, xs, h⟩
      · exact h
      · have := g.g b _ h
        rw [e] at this
        cases this
    have q1 := g.w.s _ _ p1
    have w2 : Wd (rsB p) H H1 := ⟨fun b o e => g.h b o (fun z => z) e, ⟨l, a1, a2, a3, ms, q1, g.w.s _ _ p2⟩, fun b s => by
      rcases s with rfl | ⟨t, s⟩
      · exact fresh _ _ p1
      · rw [q1] at s
        cases s
        exact fresh _ _ p2⟩
    have hlen : (start N [V.ref a]).length = N.length := by
      rw [e0.len]
      have hN : N.take 1 = [(Str.ofString "script")] := S.pre
      have : 1 ≤ N.length := by
        have := congrArg List.length hN
        simp at this
        omega
      simp
      omega
    refine (h2 p H1).sem _ _ hΦ H H1 _ (Gr.refl w2) ((en_none hlen).set (x := .rf p) rfl rfl) _ ⟨?_, ?_, ?_, ?_⟩ ?_
    · exact fun G' H' σ' s' g _ _ p => p.elim
    · intro G' H' v b g _ r pb
      obtain rfl : v = .bl b := r
      have pb : b = true := pb
      rw [pb]
      exact hQ H'
    · exact fun G' H' σ' l g _ _ p => p.elim
    · exact fun G' H' σ' l g _ _ p => p.elim
    · exact fun G' H' σ' cls d e g r p => p.elim
end Ty

set_option Elab.async false
set_option linter.all false
set_option maxRecDepth 100000
set_option maxHeartbeats 1000000
set_option autoImplicit false
/-! Ty, part J: min, max of tuples; loops by invariants -/
namespace Ty
open PySem PySem.Spec PyProof.Rows L2
theorem alike_int (i j : Int) : PySem.W.alike (.int i) (.int j) = true := by first | rfl | simp [PySem.W.alike]
theorem alikeAll_int : ∀ ns : List Int, PySem.W.AlikeAll (ns.map PyData.int) := fun ns => by
  constructor
  · intro x hx y hy
    obtain ⟨i, _, rfl⟩ := List.mem_map.mp hx
    obtain ⟨j, _, rfl⟩ := List.mem_map.mp hy
    exact alike_int i j
  · intro x hx
    obtain ⟨i, _, rfl⟩ := List.mem_map.mp hx
    exact fun z => nomatch z
theorem dpInts {K : Fg} {H : Hp} : ∀ ns : List Int, DpAll K H (ns.map V.int) (ns.map PyData.int)
  | [] => .nil
  | n :: ns => .cons (.int n) (dpInts ns)
theorem depInts : ∀ ns : List Int, PyData.depthAll (ns.map PyData.int) = 0
  | [] => by simp [PyData.depthAll]
  | n :: ns => by
    rw [List.map_cons]
    simp only [PyData.depthAll, depInts ns, PyData.depth]
    rfl
abbrev rMaxT (K : Fg) : List V → Hp → VK → Prop := fun vs H Q => ∃ (a : Addr) (n : Int) (ns : List Int), vs = [.ref a] ∧ SqT K H a ((n :: ns).map V.int) ∧ Q (.int (ns.foldl max n)) H
abbrev rMinT (K : Fg) : List V → Hp → VK → Prop := fun vs H Q => ∃ (a : Addr) (n : Int) (ns : List Int), vs = [.ref a] ∧ SqT K H a ((n :: ns).map V.int) ∧ Q (.int (ns.foldl min n)) H
section
variable {X : Cx}
theorem cr_maxT (hc : X.calm = true) (hu : X.A.units + 64 < cLine) : CallR X (.builtin "max") (rMaxT X.K) := by
  intro pins s σ H vs us Q I r h
  obtain ⟨a, n, ns, rfl, hs, q⟩ := h
  obtain ⟨its, rv, hl, _⟩ := I.tuple hs
  rw [Vals.ref1 r]
  obtain ⟨as, hr⟩ := Dp.readsAll I _ _ its (dpInts (n :: ns)) rv
  have hd := depInts (n :: ns)
  refine PySem.W.max_tuple_data (x := .int n) (xs := ns.map PyData.int) (I.ok.hd hc) (show s.heap.IsTuple a its.toArray from hl) hr (alikeAll_int (n :: ns)) (by rw [show PyData.int n :: ns.map PyData.int = (n :: ns).map PyData.int from rfl, hd]; omega) fun i v h' tk bs hi hv hk => ?_
  rw [PySem.W.maxD_ints] at hv
  cases hv
  exact ⟨.int _, H, I.kept hk, ⟨_, rfl⟩, q⟩
theorem cr_minT (hc : X.calm = true) (hu : X.A.units + 64 < cLine) : CallR X (.builtin "min") (rMinT X.K) := by
  intro pins s σ H vs us Q I r h
  obtain ⟨a, n, ns, rfl, hs, q⟩ := h
  obtain ⟨its, rv, hl, _⟩ := I.tuple hs
  rw [Vals.ref1 r]
  obtain ⟨as, hr⟩ := Dp.readsAll I _ _ its (dpInts (n :: ns)) rv
  have hd := depInts (n :: ns)
  refine PySem.W.min_tuple_data (x := .int n) (xs := ns.map PyData.int) (I.ok.hd hc) (show s.heap.IsTuple a its.toArray from hl) hr (alikeAll_int (n :: ns)) (by rw [show PyData.int n :: ns.map PyData.int = (n :: ns).map PyData.int from rfl, hd]; omega) fun i v h' tk bs hi hv hk => ?_
  rw [PySem.W.minD_ints] at hv
  cases hv
  exact ⟨.int _, H, I.kept hk, ⟨_, rfl⟩, q⟩
theorem max_P (hc : X.calm = true) (hu : X.A.units + 64 < cLine) : CallW X (.builtin "max") (aCons (rp2 (i := rpI) (j := rpI)) aNil) rpI (rMaxT X.K) (fun x post _ => post (max x.1.1 x.1.2)) :=
  ⟨cr_maxT hc hu, fun rs G H vs x post ep Q w ha φ k => by
    obtain ⟨v, rfl, a, u, z, rfl, h1, h2, h3⟩ := one1 ha
    obtain rfl : u = V.int x.1.1 := h2
    obtain rfl : z = V.int x.1.2 := h3
    exact ⟨a, x.1.1, [x.1.2], rfl, w.s.st h1, k G H _ _ (Gr.refl w) rfl φ⟩⟩
theorem min_P (hc : X.calm = true) (hu : X.A.units + 64 < cLine) : CallW X (.builtin "min") (aCons (rp2 (i := rpI) (j := rpI)) aNil) rpI (rMinT X.K) (fun x post _ => post (min x.1.1 x.1.2)) :=
  ⟨cr_minT hc hu, fun rs G H vs x post ep Q w ha φ k => by
    obtain ⟨v, rfl, a, u, z, rfl, h1, h2, h3⟩ := one1 ha
    obtain rfl : u = V.int x.1.1 := h2
    obtain rfl : z = V.int x.1.2 := h3
    exact ⟨a, x.1.1, [x.1.2], rfl, w.s.st h1, k G H _ _ (Gr.refl w) rfl φ⟩⟩
end
/-! ### loops by invariants -/
theorem forP_ind {α S β : Type} {Φb : α → S → Pt (Out S S β)} {fin : S → Prop} {rt : β → Prop} {ep : Exn → Prop} (Inv : List α → S → Prop) (hnil : ∀ s, Inv [] s → fin s)
    (hcons : ∀ x r s (next : S → Prop), (∀ s', Inv r s' → next s') → Inv (x :: r) s → Φb x s (fun
      | .nx s' => next s'
      | .ct s' => next s'
      | .bk s' => fin s'
      | .rt b => rt b) ep) : ∀ xs s, Inv xs s → forP Φb fin rt ep xs s := by
  intro xs
  induction xs with
  | nil => exact fun s h => hnil s h
  | cons x r ih => exact fun s h => hcons x r s (fun s' => forP Φb fin rt ep r s') ih h
theorem lcP_ind {α β : Type} {Φt : α → Pt Bool} {Φe : α → Pt β} {post : List β → Prop} (Inv : List α → List β → Prop) (hnil : ∀ acc, Inv [] acc → post acc)
    (hcons : ∀ x r acc (next : List β → Prop), (∀ acc', Inv r acc' → next acc') → Inv (x :: r) acc → Φt x (fun k => if k = true then Φe x (fun y => next (acc ++ [y])) (fun _ => False) else next acc) (fun _ => False)) :
    ∀ xs acc, Inv xs acc → lcP Φt Φe post xs acc := by
  intro xs
  induction xs with
  | nil => exact fun s h => hnil s h
  | cons x r ih => exact fun acc h => hcons x r acc (fun acc' => lcP Φt Φe post r acc') ih h
/-- a comprehension is a filter and a map -/
theorem lcP_eq {α β : Type} {Φt : α → Pt Bool} {Φe : α → Pt β} {post : List β → Prop} (f : α → Bool) (g : α → β) (xs : List α) (ht : ∀ x ∈ xs, ∀ (P : Bool → Prop) ep, P (f x) → Φt x P ep) (he : ∀ x ∈ xs, f x = true → ∀ (P : β → Prop) ep, P (g x) → Φe x P ep) (h : post ((xs.filter f).map g)) : lcP Φt Φe post xs [] := by
  refine lcP_ind (fun ys acc => (∀ x ∈ ys, x ∈ xs) ∧ post (acc ++ (ys.filter f).map g)) (fun acc h => by simpa using h.2) (fun x r acc next hn hi => ?_) xs [] ⟨fun _ h => h, by simpa using h⟩
  obtain ⟨h1, h2⟩ := hi
  have hr : ∀ y ∈ r, y ∈ xs := fun y hy => h1 y (List.mem_cons_of_mem _ hy)
  refine ht x (h1 x List.mem_cons_self) _ _ ?_
  cases hf : f x with
  | true =>
    rw [if_pos rfl]
    refine he x (h1 x List.mem_cons_self) hf _ _ (hn _ ⟨hr, ?_⟩)
    rw [List.filter_cons, hf] at h2
    simpa using h2
  | false =>
    rw [if_neg (by simp)]
    refine hn _ ⟨hr, ?_⟩
    rw [List.filter_cons, hf] at h2
    simpa using h2
theorem _root_.L2.Room.u1 {k : Nat} {A : PySem.Around} (hr : L2.Room k A) : A.units + 1 < PySem.cLine := by
  have := hr.units
  omega
theorem JE.conv {X : Cx} {c : Cn} {e : Expr} {ρ : List Sl} {α : Type} {i : Rp α} {t t' : TE} {Φ Φ' : Pt α} (h : JE X c e ρ i t Φ) (ht : t = t') (hf : Φ = Φ') : JE X c e ρ i t' Φ' := ht ▸ hf ▸ h
theorem JB.conv {X : Cx} {c : Cn} {ss : List Stmt} {ρ : List Sl} {S L β : Type} {out : S → List Sl} {lp : L → List Sl} {i : Rp β} {t t' : TS} {Φ Φ' : Pt (Out S L β)} (h : JB X c ss ρ out lp i t Φ) (ht : t = t') (hf : Φ = Φ') : JB X c ss ρ out lp i t' Φ' := ht ▸ hf ▸ h
theorem JTs.conv {X : Cx} {c : Cn} {es : List Expr} {ρ : List Sl} {t t' : TT} {Φ Φ' : Pt Bool} (h : JTs X c es ρ t Φ) (ht : t = t') (hf : Φ = Φ') : JTs X c es ρ t' Φ' := ht ▸ hf ▸ h
/-- two ways that meet -/
theorem seq_if {S1 S L β : Type} {b : Bool} {Φr : S1 → Pt (Out S L β)} {post : Out S L β → Prop} {ep : Exn → Prop} {x y : S1} (Q : S1 → Prop) (hx : b = true → Q x) (hy : b = false → Q y) (h : ∀ z, Q z → Φr z post ep) : if b = true then seqP Φr post ep (.nx x) else seqP Φr post ep (.nx y) := by
  cases b with
  | true => exact h x (hx rfl)
  | false => exact h y (hy rfl)
theorem two_no {P1 P2 X Y N : Prop} (h1 : P1) (h2 : P2) (hn : N) : P1 ∧ (if (!true) = true then X else P2 ∧ if (!true) = true then Y else N) := ⟨h1, by
  rw [if_neg (by simp)]
  exact ⟨h2, by
    rw [if_neg (by simp)]
    exact hn⟩⟩
theorem seq_nx {S1 S L β : Type} {Φr : S1 → Pt (Out S L β)} {post : Out S L β → Prop} {ep : Exn → Prop} {x : S1} (h : Φr x post ep) : seqP Φr post ep (.nx x) := h
end Ty

set_option Elab.async false
set_option linter.all false
set_option maxRecDepth 100000
set_option maxHeartbeats 1000000
set_option autoImplicit false
/-! Ty, part K: values seen otherwise (up, down), numbers and texts in one tuple -/
namespace Ty
open PySem PySem.Spec PyProof.Rows L2
section
variable {X : Cx} {c : Cn} {ρ : List Sl} {α β : Type} {iα : Rp α} {iβ : Rp β} {e : Expr} {te : TE} {Φ : Pt α}
/-- what stands for m stands for f m -/
def UpW (iα : Rp α) (iβ : Rp β) (f : α → β) : Prop := ∀ (K : Fg) (G : Hp) (v : V) (m : α), iα.rp K G v m → iβ.rp K G v (f m)
theorem e_up {f : α → β} (h : UpW iα iβ f) (he : JE X c e ρ iα te Φ) : JE X c e ρ iβ te (fun post ep => Φ (fun m => post (f m)) ep) :=
  ⟨he.pe, fun post ep φ G H σ w E Q k hx => he.sem _ _ φ G H σ w E Q (fun G1 H1 v m g r p => k G1 H1 v (f m) g (h _ _ _ _ r) p) hx⟩
/-- what stands for f m stands for m -/
theorem e_dn {f : β → α} (h : ∀ (K : Fg) (G : Hp) (v : V) (m : β), iα.rp K G v (f m) → iβ.rp K G v m) (he : JE X c e ρ iα te Φ) : JE X c e ρ iβ te (fun post ep => Φ (fun m => ∃ x, m = f x ∧ post x) ep) :=
  ⟨he.pe, fun post ep φ G H σ w E Q k hx => he.sem _ _ φ G H σ w E Q (fun G1 H1 v m g r ⟨x, ex, p⟩ => k G1 H1 v x g (h _ _ _ _ (ex ▸ r)) p) hx⟩
end
/-- a number or a text -/
inductive Itm where
  | i (n : Int)
  | s (x : Str)
deriving DecidableEq
def Itm.v : Itm → V
  | .i n => .int n
  | .s x => .str x
abbrev rpU : Rp Itm := ⟨fun _ _ v m => v = m.v, fun _ h => h⟩
theorem upI : UpW rpI rpU Itm.i := fun _ _ _ _ h => h
theorem upS : UpW rpS rpU Itm.s := fun _ _ _ _ h => h
theorem dnI (K : Fg) (G : Hp) (v : V) (m : Int) (h : rpU.rp K G v (.i m)) : rpI.rp K G v m := h
theorem dnS (K : Fg) (G : Hp) (v : V) (m : Str) (h : rpU.rp K G v (.s m)) : rpS.rp K G v m := h
instance : Sc Itm rpU := ⟨fun {K G x y a b} h1 h2 => by
  obtain rfl : x = a.v := h1
  obtain rfl : y = b.v := h2
  cases a <;> cases b <;> exact ⟨rfl, by simp [Itm.v]⟩⟩
instance : BEq Itm := ⟨fun a b => eqV a.v b.v⟩
instance : Flat Itm rpU := ⟨fun {K G x y a b} h1 h2 => by
  obtain rfl : x = a.v := h1
  obtain rfl : y = b.v := h2
  cases a <;> cases b <;> exact ⟨rfl, rfl⟩⟩
instance : Dat Itm rpU := ⟨fun
  | .i n => .int n
  | .s x => .str x, fun
  | .i _ => True
  | .s x => PyData.strOk x = true, 0, fun {K G v m} h => by
  obtain rfl : v = m.v := h
  cases m with
  | i n => exact .int n
  | s x => exact .str x, fun {m} h => by
  cases m with
  | i n => rfl
  | s x => simpa [PyData.canLay0] using h, fun m => by cases m <;> simp [PyData.depth]⟩
instance : DatE Itm rpU := ⟨fun a b => by
  cases a <;> cases b
  · show PyData.eqv (.int _) (.int _) = _
    simp [PyData.eqv, Bool.beq_eq_decide_eq]
  · show PyData.eqv (.int _) (.str _) = _
    simp [PyData.eqv]
  · show PyData.eqv (.str _) (.int _) = _
    simp [PyData.eqv]
  · show PyData.eqv (.str _) (.str _) = _
    simp [PyData.eqv, Bool.beq_eq_decide_eq]⟩
section
variable {X : Cx} {c : Cn} {ρ : List Sl} {α : Type} {iα : Rp α} {pos : Pos}
/-- isinstance(x, str), isinstance(x, int) of such a value -/
theorem isiU_S : CallW X (.builtin "isinstance") (as2 rpU (rpC (.ty "str"))) rpB (rIsi X.K) (fun x post _ => post (match x.1 with | .s _ => true | .i _ => false)) :=
  ⟨call_isi, fun rs G H vs x post ep Q w ha φ k => by
    obtain ⟨v, v2, rfl, h1, h2⟩ := two2 ha
    obtain rfl : v2 = .ty "str" := h2
    obtain ⟨m, x2⟩ := x
    obtain rfl : v = m.v := h1
    cases m with
    | i n => exact ⟨_, _, .type "int", .type "str", false, rfl, .ty _, .base (.int n), kit_ty (by decide +kernel), k G H _ _ (Gr.refl w) rfl φ⟩
    | s z => exact ⟨_, _, .type "str", .type "str", true, rfl, .ty _, .base (.str z), kit_ty (by decide +kernel), k G H _ _ (Gr.refl w) rfl φ⟩⟩
theorem isiU_I : CallW X (.builtin "isinstance") (as2 rpU (rpC (.ty "int"))) rpB (rIsi X.K) (fun x post _ => post (match x.1 with | .s _ => false | .i _ => true)) :=
  ⟨call_isi, fun rs G H vs x post ep Q w ha φ k => by
    obtain ⟨v, v2, rfl, h1, h2⟩ := two2 ha
    obtain rfl : v2 = .ty "int" := h2
    obtain ⟨m, x2⟩ := x
    obtain rfl : v = m.v := h1
    cases m with
    | i n => exact ⟨_, _, .type "int", .type "int", true, rfl, .ty _, .base (.int n), kit_ty (by decide +kernel), k G H _ _ (Gr.refl w) rfl φ⟩
    | s z => exact ⟨_, _, .type "str", .type "int", false, rfl, .ty _, .base (.str z), kit_ty (by decide +kernel), k G H _ _ (Gr.refl w) rfl φ⟩⟩
theorem isiU_B : CallW X (.builtin "isinstance") (as2 rpU (rpC (.ty "bool"))) rpB (rIsi X.K) (fun x post _ => post false) :=
  ⟨call_isi, fun rs G H vs x post ep Q w ha φ k => by
    obtain ⟨v, v2, rfl, h1, h2⟩ := two2 ha
    obtain rfl : v2 = .ty "bool" := h2
    obtain ⟨m, x2⟩ := x
    obtain rfl : v = m.v := h1
    cases m with
    | i n => exact ⟨_, _, .type "int", .type "bool", false, rfl, .ty _, .base (.int n), kit_ty (by decide +kernel), k G H _ _ (Gr.refl w) rfl φ⟩
    | s z => exact ⟨_, _, .type "str", .type "bool", false, rfl, .ty _, .base (.str z), kit_ty (by decide +kernel), k G H _ _ (Gr.refl w) rfl φ⟩⟩
/-- a tuple display of alike items -/
theorem e_tupT {es : List Expr} {k0 : Nat} {ι : Type} {as : ι → List Sl} {f : ι → List α} {t : TA} {Φ : Pt ι} (h : JA X c es ρ as t Φ) (ha : AllA iα as f) : JE X c (.Tuple es k0 pos) ρ (rpT (i := iα)) (tTup t) (fun post ep => Φ (fun x => (f x).length ≤ sizeLine ∧ post ⟨f x⟩) ep) := by
  refine ⟨pe_tup h.pe, fun post ep φ G H σ w E Q k hx => h.sem _ _ φ G H σ w E _ (fun G1 H1 vs x g1 r1 p => ?_) hx⟩
  have r := ha.out r1
  have hz : vs.length ≤ sizeLine := by rw [r.length]; exact p.1
  refine ⟨hz, fun q hq => ?_⟩
  have g := gr_new (o := .tup vs) g1.w hq
  exact k _ _ _ _ (g1.trans g) ⟨q, vs, rfl, SqT.of upd_same, r.mono g.g, hz⟩ p.2
end
section
variable {X : Cx} {α : Type} {i : Rp α}
/-- tuples one behind another -/
theorem add_T : OpW X (binaryOp .Add) (rpT (i := i)) (rpT (i := i)) (rpT (i := i)) (rCatA X.K) (fun a b post _ => a.l.length + b.l.length ≤ sizeLine ∧ post ⟨a.l ++ b.l⟩) :=
  ⟨op_catA, fun rs G H x y a b post ep Q w hx hy φ k => by
    obtain ⟨l, vs, rfl, h1, h2, h3⟩ := hx
    obtain ⟨l', us, rfl, h4, h5, h6⟩ := hy
    have e1 := h2.length
    have e2 := h5.length
    have hz : vs.length + us.length ≤ sizeLine := by rw [e1, e2]; exact φ.1
    refine ⟨l, l', vs, us, rfl, rfl, w.s.st h1, w.s.st h4, hz, fun e => ?_, fun _ e => ?_, fun _ _ p hp => ?_⟩
    · subst e
      have : a.l = [] := List.eq_nil_of_length_eq_zero (by rw [← e1]; rfl)
      exact k G H _ _ (Gr.refl w) ⟨l', us, rfl, h4, by rw [this]; exact h5, h6⟩ φ.2
    · subst e
      have : b.l = [] := List.eq_nil_of_length_eq_zero (by rw [← e2]; rfl)
      exact k G H _ _ (Gr.refl w) ⟨l, vs, rfl, h1, by rw [this, List.append_nil]; exact h2, h3⟩ φ.2
    · have g := gr_new (o := .tup (vs ++ us)) w hp
      exact k _ _ _ _ g ⟨p, vs ++ us, rfl, SqT.of upd_same, (h2.append h5).mono g.g, by rw [List.length_append]; exact hz⟩ φ.2⟩
/-- a list, n times -/
theorem rp_flat {K : Fg} {G : Hp} {vs : List V} {ms : List α} (h : RpAll i K G vs ms) : ∀ n : Nat, RpAll i K G (List.replicate n vs).flatten (List.replicate n ms).flatten
  | 0 => .nil
  | n + 1 => by
    rw [List.replicate_succ, List.replicate_succ, List.flatten_cons, List.flatten_cons]
    exact h.append (rp_flat h n)
theorem len_flat {β : Type} (xs : List β) : ∀ n : Nat, (List.replicate n xs).flatten.length = xs.length * n
  | 0 => rfl
  | n + 1 => by
    rw [List.replicate_succ, List.flatten_cons, List.length_append, len_flat xs n, Nat.mul_succ]
    omega
theorem mul_L : OpW X (binaryOp .Mult) (rpL (i := i)) rpI (rpL (i := i)) rRep (fun a b post _ => (-(2 ^ 63) ≤ b ∧ b < 2 ^ 63 ∧ a.length * b.toNat ≤ sizeLine) ∧ post (List.replicate b.toNat a).flatten) :=
  ⟨op_rep, fun rs G H x y a b post ep Q w hx hy φ k => by
    obtain ⟨l, vs, rfl, h1, h2, h3⟩ := hx
    have e1 := h2.length
    refine ⟨l, b, vs, rfl, hy, w.s _ _ h1, φ.1.1, φ.1.2.1, by rw [e1]; exact φ.1.2.2, fun p hp => ?_⟩
    have g := gr_new (o := .lst (List.replicate b.toNat vs).flatten) w hp
    exact k _ _ _ _ g ⟨p, _, rfl, upd_same, (rp_flat h2 _).mono g.g, by rw [len_flat, e1]; exact φ.1.2.2⟩ φ.2⟩
/-- one sign in a text -/
abbrev rInSg : R2 := fun x y H Q => ∃ (c : Nat) (z : Str), x = .str ⟨#[c]⟩ ∧ y = .str z ∧ Q (.bl (decide (c ∈ z.cps.toList))) H
theorem in_Sg : OpW X (compareOp .In) rpS rpS rpB rInSg (fun a b post _ => ∃ c : Nat, a = ⟨#[c]⟩ ∧ post (decide (c ∈ b.cps.toList))) :=
  ⟨op_in_sign, fun rs G H x y a b post ep Q w hx hy φ k => by
    obtain ⟨c, rfl, p⟩ := φ
    exact ⟨c, b, hx, hy, k G H _ _ (Gr.refl w) rfl p⟩⟩
theorem t_str {c : Cn} {ρ : List Sl} {a : Expr} {ta : TE} {Φa : Pt Str} (ha : JE X c a ρ rpS ta Φa) (he : ∀ whole, isTrue a X.env whole = (do let v ← whole; standAt a.pos; holding [v] (truthy v)) := by intro _; rfl) :
    JT X c a ρ (fun σ H Q => ta σ H fun x H' => ∃ k, TruV X.K x H' k ∧ Q k H') (fun post ep => Φa (fun x => x.length ≤ sizeLine ∧ post ((x.length : Int) != 0)) ep) :=
  ⟨pt_truth ha.pe he, fun post ep φ G H σ w E Q k hx => ha.sem _ _ φ G H σ w E _ (fun G1 H1 v1 m1 g1 r1 p => ⟨(m1.length : Int) != 0, by
    obtain rfl : v1 = .str m1 := r1
    exact ⟨p.1, rfl⟩, k G1 H1 _ g1 p.2⟩) hx⟩
/-- own lists: truth, items, len -/
theorem t_ml {c : Cn} {ρ : List Sl} {j : Nat} {x : Str} {pos : Pos} {xs : List α} (hρ : ρ[j]? = some (.ml i xs)) (hN : X.N[j]? = some x := by rfl) (hv : Vis X.env.scope x := by first | exact Or.inl rfl | exact Or.inr (Or.inl rfl) | exact Or.inr (Or.inr rfl))
    (hd : (x == ("__debug__" : Str)) = false := by decide) (hcd : (x == ("__classdict__" : Str)) = false := by decide) (he : ∀ whole, isTrue (.Name x pos) X.env whole = (do let v ← whole; standAt (Expr.Name x pos).pos; holding [v] (truthy v)) := by intro _; rfl) :
    JT X c (.Name x pos) ρ (fun σ H Q => tVar j σ H fun x H' => ∃ k, TruV X.K x H' k ∧ Q k H') (fun post _ => post (!xs.isEmpty)) :=
  ⟨pt_truth (pe_var hN hv hd hcd) he, fun post ep φ G H σ w E Q k hx => by
    obtain ⟨l, vs, h1, h2, h3, h4, h5, h6⟩ := E.ok j _ hρ
    exact ⟨.ref l, h1, !xs.isEmpty, .inl ⟨vs, SqL.of h2, by rw [emp h3]⟩, k G H _ (Gr.refl w) φ⟩⟩
theorem e_ixM {c : Cn} {ρ : List Sl} {j : Nat} {x : Str} {px pos : Pos} {b : Expr} {tb : TE} {Φb : Pt Int} {xs : List α} (hρ : ρ[j]? = some (.ml i xs)) (hb : JE X c b ρ rpI tb Φb) (hN : X.N[j]? = some x := by rfl) (hv : Vis X.env.scope x := by first | exact Or.inl rfl | exact Or.inr (Or.inl rfl) | exact Or.inr (Or.inr rfl))
    (hd : (x == ("__debug__" : Str)) = false := by decide) (hcd : (x == ("__classdict__" : Str)) = false := by decide) (hs : PlainIxT b := by exact fun _ _ => rfl) :
    JE X c (.Subscript (.Name x px) b pos) ρ i (tOp (rIxL X.K) (tVar j) tb) (fun post ep => Φb (fun k => ∃ m, atI xs k = some m ∧ post m) ep) := by
  refine ⟨pe_ix ix_list (pe_var hN hv hd hcd) hb.pe hs, fun post ep φ G H σ w E Q kk hx => ?_⟩
  obtain ⟨l, vs, h1, _⟩ := E.ok j _ hρ
  refine ⟨.ref l, h1, hb.sem _ _ φ G H σ w E _ (fun G1 H1 v m g r ⟨z, e, p⟩ => ?_) hx⟩
  obtain ⟨l', vs', h1', h2', h3', _⟩ := (E.up g).ok j _ hρ
  rw [h1] at h1'
  cases h1'
  obtain ⟨u, e1, r1⟩ := h3'.at e
  exact ⟨l, vs', m, u, rfl, r, SqL.of h2', e1, kk G1 H1 u z g r1 p⟩
theorem e_lenM {c : Cn} {ρ : List Sl} {j : Nat} {x : Str} {p px pos : Pos} {xs : List α} (hρ : ρ[j]? = some (.ml i xs)) (hm : X.mg "len" = none) (hN : X.N[j]? = some x := by rfl) (hv : Vis X.env.scope x := by first | exact Or.inl rfl | exact Or.inr (Or.inl rfl) | exact Or.inr (Or.inr rfl))
    (hd : (x == ("__debug__" : Str)) = false := by decide) (hcd : (x == ("__classdict__" : Str)) = false := by decide) (hbv : bootBuiltins "len" = some (.builtin "len") := by decide +kernel) (hg : Gl X "len" := by rfl)
    (he : starEach [.Name x px] X.env = [(false, eval (.Name x px) X.env)] := by rfl) (hpl : (backTo pos (starEach ([] : List Expr) X.env)).any (·.1) = false := by rfl) :
    JE X c (.Call (.Name "len" p) [.Name x px] [] pos) ρ rpI (tCB (rLenQ X.K) (tCons (tVar j) tNil)) (fun post _ => post (xs.length : Int)) := by
  refine ⟨pe_callB call_len_seq hg hm hbv (pa_cons (pe_var hN hv hd hcd) pa_nil he) (by decide) (by decide) he hpl, fun post ep φ G H σ w E Q k hx => ?_⟩
  obtain ⟨l, vs, h1, h2, h3, h4, h5, h6⟩ := E.ok j _ hρ
  exact ⟨.ref l, h1, l, vs, rfl, .inl (SqL.of h2), k G H _ _ (Gr.refl w) (by show V.int _ = V.int _; rw [h3.length]) φ⟩
end
end Ty

set_option Elab.async false
set_option linter.all false
set_option maxRecDepth 100000
set_option maxHeartbeats 1000000
set_option autoImplicit false
/-! Ty, part L: dicts that are known for good -/
namespace Ty
open PySem PySem.Spec PyProof.Rows L2
/-- a dict with keys that are numbers or texts -/
structure Di (α : Type) where
  l : List (Key × α)
instance rpDi {α : Type} [i : Rp α] : Rp (Di α) := ⟨fun K G v ms => ∃ a vs, v = .ref a ∧ G a = some (.dK vs) ∧ KvAll i K G vs ms.l ∧ vs.length ≤ sizeLine, fun e h => by
  obtain ⟨a, vs, h1, h2, h3, h4⟩ := h
  exact ⟨a, vs, h1, e _ _ h2, h3.mono e, h4⟩⟩
section
variable {X : Cx} {c : Cn} {ρ : List Sl} {α κ : Type} {i : Rp α} {iκ : Rp κ} {a b : Expr} {ta tb : TE} {Φa : Pt (Di α)} {Φb : Pt κ} {pos : Pos}
instance : KeyW Itm rpU := ⟨fun
  | .i n => .inl n
  | .s x => .inr x, fun {K G v m} h => by
  obtain rfl : v = m.v := h
  cases m <;> rfl⟩
/-- d[k], there -/
theorem e_get [kw : KeyW κ iκ] (hu : X.A.units + 1 < cLine) (ha : JE X c a ρ (rpDi (i := i)) ta Φa) (hb : JE X c b ρ iκ tb Φb) (hs : NoSl b := by exact fun _ _ => rfl) :
    JE X c (.Subscript a b pos) ρ i (tDGet ta tb) (fun post ep => Φa (fun d => Φb (fun k => ∃ m, valM d.l (kw.key k) = some m ∧ post m) ep) ep) := by
  refine ⟨pe_dget hu ha.pe hb.pe hs, fun post ep φ G H σ w E Q kk hx => ?_⟩
  refine ha.sem _ _ φ G H σ w E _ (fun G1 H1 v1 d g1 r1 φ1 => ?_) hx
  refine hb.sem _ _ φ1 G1 H1 σ g1.w (E.up g1) _ (fun G2 H2 v2 k g2 r2 φ2 => ?_) (hx.up g1)
  obtain ⟨l, vs, rfl, h1, h2, h3⟩ := Rp.mono g2.g r1
  obtain rfl := kw.out r2
  obtain ⟨m, e, p⟩ := φ2
  rcases h2.val (kw.key k) with ⟨_, e2⟩ | ⟨v, u, e1, e2, r⟩
  · rw [e] at e2
    cases e2
  · rw [e] at e2
    cases e2
    exact ⟨l, v, rfl, by rw [← e1]; exact DGet.k (g2.w.s _ _ h1), kk G2 H2 v _ (g1.trans g2) r p⟩
/-- k in d -/
theorem e_inDi [kw : KeyW κ iκ] (hu : X.A.units + 1 < cLine) (hb : JE X c b ρ iκ tb Φb) (ha : JE X c a ρ (rpDi (i := i)) ta Φa) (h1 : behindInMarks .In a = false := by rfl) :
    JE X c (.Compare b [.In] [a] pos) ρ rpB (tDIn tb ta) (fun post ep => Φb (fun k => Φa (fun d => post (valM d.l (kw.key k)).isSome) ep) ep) := by
  refine ⟨pe_cmp (pc_din hu hb.pe ha.pe) h1, fun post ep φ G H σ w E Q kk hx => ?_⟩
  refine hb.sem _ _ φ G H σ w E _ (fun G1 H1 v1 k g1 r1 φ1 => ?_) hx
  refine ha.sem _ _ φ1 G1 H1 σ g1.w (E.up g1) _ (fun G2 H2 v2 d g2 r2 φ2 => ?_) (hx.up g1)
  obtain ⟨l, vs, rfl, h1, h2, h3⟩ := r2
  obtain rfl := kw.out r1
  refine ⟨l, valV vs (kw.key k), rfl, DGet.k (g2.w.s _ _ h1), kk G2 H2 _ _ (g1.trans g2) ?_ φ2⟩
  show V.bl _ = V.bl _
  rcases h2.val (kw.key k) with ⟨e1, e2⟩ | ⟨v, u, e1, e2, _⟩ <;> rw [e1, e2] <;> rfl
theorem e_ninDi [kw : KeyW κ iκ] (hu : X.A.units + 1 < cLine) (hb : JE X c b ρ iκ tb Φb) (ha : JE X c a ρ (rpDi (i := i)) ta Φa) (h1 : behindInMarks .NotIn a = false := by rfl) :
    JE X c (.Compare b [.NotIn] [a] pos) ρ rpB (tDNotIn tb ta) (fun post ep => Φb (fun k => Φa (fun d => post (!(valM d.l (kw.key k)).isSome)) ep) ep) := by
  refine ⟨pe_cmp (pc_dnotin hu hb.pe ha.pe) h1, fun post ep φ G H σ w E Q kk hx => ?_⟩
  refine hb.sem _ _ φ G H σ w E _ (fun G1 H1 v1 k g1 r1 φ1 => ?_) hx
  refine ha.sem _ _ φ1 G1 H1 σ g1.w (E.up g1) _ (fun G2 H2 v2 d g2 r2 φ2 => ?_) (hx.up g1)
  obtain ⟨l, vs, rfl, h1, h2, h3⟩ := r2
  obtain rfl := kw.out r1
  refine ⟨l, valV vs (kw.key k), rfl, DGet.k (g2.w.s _ _ h1), kk G2 H2 _ _ (g1.trans g2) ?_ φ2⟩
  show V.bl _ = V.bl _
  rcases h2.val (kw.key k) with ⟨e1, e2⟩ | ⟨v, u, e1, e2, _⟩ <;> rw [e1, e2] <;> rfl
/-- d.get(k, z) -/
theorem e_get2 [kw : KeyW κ iκ] {z : Expr} {tz : TE} {Φz : Pt α} {pa : Pos} (hu : X.A.units + 1 < cLine) (ha : JE X c a ρ (rpDi (i := i)) ta Φa) (hb : JE X c b ρ iκ tb Φb) (hz : JE X c z ρ i tz Φz) (m : M2 X a "get" pa b z pos) :
    JE X c (.Call (.Attribute a "get" pa) [b, z] [] pos) ρ i (tDGet2 ta tb tz) (fun post ep => Φa (fun d => Φb (fun k => Φz (fun z => post ((valM d.l (kw.key k)).getD z)) ep) ep) ep) := by
  refine ⟨pe_dget2 hu ha.pe hb.pe hz.pe m, fun post ep φ G H σ w E Q kk hx => ?_⟩
  refine ha.sem _ _ φ G H σ w E _ (fun G1 H1 v1 d g1 r1 φ1 => ?_) hx
  obtain ⟨l, vs, rfl, h1, h2, h3⟩ := r1
  refine ⟨l, rfl, .inl ⟨vs, .inl (g1.w.s _ _ h1)⟩, ?_⟩
  refine hb.sem _ _ φ1 G1 H1 σ g1.w (E.up g1) _ (fun G2 H2 v2 k g2 r2 φ2 => ?_) (hx.up g1)
  have g12 := g1.trans g2
  refine hz.sem _ _ φ2 G2 H2 σ g2.w (E.up g12) _ (fun G3 H3 v3 z g3 r3 φ3 => ?_) (hx.up g12)
  obtain rfl := kw.out r2
  have g23 := g2.trans g3
  refine ⟨valV vs (kw.key k), DGet.k (g23.w.s _ _ (g23.g _ _ h1)), ?_⟩
  rcases (h2.mono g23.g).val (kw.key k) with ⟨e1, e2⟩ | ⟨v, u, e1, e2, r⟩
  · rw [e2] at φ3
    rw [e1]
    exact kk G3 H3 _ z (g12.trans g3) r3 φ3
  · rw [e2] at φ3
    rw [e1]
    exact kk G3 H3 _ u (g12.trans g3) r φ3
end
section
variable {X : Cx} {c : Cn} {ρ : List Sl} {S L β α : Type} {out : S → List Sl} {lp : L → List Sl} {i : Rp β} {iα : Rp α} {rest : List Stmt} {tr : TS}
/-- an own dict is known for good from here on -/
theorem b_frzD {xs : List (Key × α)} (j : Nat) {Φr : Pt (Out S L β)} (hρ : ρ[j]? = some (.md iα xs)) (hr : JB X c rest (ρ.set j (.val (rpDi (i := iα)) ⟨xs⟩)) out lp i tr Φr) : JB X c rest ρ out lp i tr (fun post ep => xs.length ≤ sizeLine ∧ Φr post ep) := by
  refine ⟨hr.pe, fun post ep φ G H σ g E D k hx => ?_⟩
  obtain ⟨l, vs, h1, h2, h3, h4, h5, h6⟩ := E.ok j _ hρ
  have hlen := h3.length
  have gf := gr_frz g h4 h5 h6 h2
  have E' : En X.K c.rs c.H0 (upd G l (.dK vs)) H σ (ρ.set j (.val (rpDi (i := iα)) ⟨xs⟩)) := by
    refine ⟨by simp [E.len], fun q y e => ?_, fun q r y z b ne e1 e2 o1 o2 s1 s2 => ?_⟩
    · rcases get_set e with ⟨rfl, rfl, z⟩ | ⟨qq, e⟩
      · exact ⟨.ref l, h1, l, vs, rfl, upd_same, h3.mono (Ex.new h5), by rw [hlen]; exact φ.1⟩
      · have p := E.ok q y e
        cases y with
        | no => trivial
        | val ii m =>
          obtain ⟨v, p1, p2⟩ := p
          exact ⟨v, p1, Rp.mono (Ex.new h5) p2⟩
        | rf a => exact p
        | ml ii ys =>
          obtain ⟨l', vs', q1, q2, q3, q4, q5, q6⟩ := p
          have ne : l' ≠ l := fun z => E.sep j q _ _ l qq hρ e rfl rfl h1 (z ▸ q1)
          exact ⟨l', vs', q1, q2, q3.mono (Ex.new h5), q4, by rw [upd_ne ne]; exact q5, q6⟩
        | md ii ys =>
          obtain ⟨l', vs', q1, q2, q3, q4, q5, q6⟩ := p
          have ne : l' ≠ l := fun z => E.sep j q _ _ l qq hρ e rfl rfl h1 (z ▸ q1)
          exact ⟨l', vs', q1, q2, q3.mono (Ex.new h5), q4, by rw [upd_ne ne]; exact q5, q6⟩
        | oi l' C fs =>
          obtain ⟨dx, vs', q1, q2, q3, q4, q5, q6, q7, q8, q9, q10⟩ := p
          have ne : l' ≠ l := fun z => E.sep j q _ _ l qq hρ e rfl rfl h1 (z ▸ q1)
          have nd : dx ≠ l := fun z => by
            rw [z, h2] at q7
            cases q7
          exact ⟨dx, vs', q1, q2, q3.mono (Ex.new h5), q4, by rw [upd_ne ne]; exact q5, q6, q7, q8, by rw [upd_ne nd]; exact q9, q10⟩
    · rcases get_set e1 with ⟨_, rfl, _⟩ | ⟨q1, e1⟩
      · cases o1
      rcases get_set e2 with ⟨_, rfl, _⟩ | ⟨q2, e2⟩
      · cases o2
      exact E.sep q r y z b ne e1 e2 o1 o2 s1 s2
  exact hr.sem _ _ φ.2 _ H σ gf E' D (k.up (Ex.new h5)) hx
end
end Ty

set_option Elab.async false
set_option linter.all false
set_option maxRecDepth 100000
set_option maxHeartbeats 1000000
set_option autoImplicit false
/-! Ty, part M: while -/
namespace Ty
open PySem PySem.Spec L2
def whileP {T β : Type} (Φt : T → Pt Bool) (Φb : T → Pt (Out T T β)) (fin : T → Prop) (rt : β → Prop) (ep : Exn → Prop) (s0 : T) : Prop :=
  ∃ (Iv : T → Prop) (μ : T → Nat), Iv s0 ∧ ∀ s, Iv s → Φt s (fun k => if k = true then Φb s (fun
    | .nx s' => Iv s' ∧ μ s' < μ s
    | .ct s' => Iv s' ∧ μ s' < μ s
    | .bk s' => fin s'
    | .rt b => rt b) ep else fin s) ep
section
variable {X : Cx} {c : Cn} {ρ : List Sl} {S L β : Type} {out : S → List Sl} {lp : L → List Sl} {i : Rp β} {pos : Pos} {rest : List Stmt} {tr : TS}
theorem b_while {T : Type} {t : Expr} {tt : TT} {body : List Stmt} {tb : TS} {Φt : T → Pt Bool} {Φb : T → Pt (Out T T β)} {Φr : T → Pt (Out S L β)} {lpS : T → List Sl}
    (s0 : T) (h0 : EnLe ρ (lpS s0)) (hp : PassesOwn (model X.prog X.w) X.A X.env X.xe) (ht : ∀ s, JT X c t (lpS s) tt (Φt s)) (hb : ∀ s, JB X c body (lpS s) lpS lpS i tb (Φb s)) (hr : ∀ s, JB X c rest (lpS s) out lp i tr (Φr s)) :
    JB X c (.While t body [] pos :: rest) ρ out lp i (tSeq (tWhile tt tb) tr) (fun post ep => whileP Φt Φb (fun s => Φr s post ep) (fun b => post (.rt b)) ep s0) := by
  refine ⟨pss_cons (ps_while hp (ht s0).pe (hb s0).pe) (hr s0).pe, fun post ep φ G H σ g E D k hx => ?_⟩
  obtain ⟨Iv, μ, i0, step⟩ := φ
  refine ⟨fun m σ' H' => ∃ (G' : Hp) (s : T), Gr c.rs c.G0 c.H0 G' H' ∧ En X.K c.rs c.H0 G' H' σ' (lpS s) ∧ Ex G G' ∧ Iv s ∧ μ s = m, ⟨μ s0, G, s0, g, E.le h0, Ex.refl _, i0, rfl⟩, ?_⟩
  rintro m σ1 H1 ⟨G1, s, g1, E1, x1, iv, rfl⟩
  refine (ht s).sem _ _ (step s iv) G1 H1 σ1 g1.w E1 _ (fun G2 H2 b g2 p => ?_) (hx.at g1)
  have x2 := x1.trans g2.g
  cases b with
  | false => exact (hr s).sem _ _ p G2 H2 σ1 (g1.trans g2) (E1.up g2) D (k.up x2) hx
  | true =>
    refine ⟨fun σ' H' => ∃ (G' : Hp) (s' : T), Gr c.rs c.G0 c.H0 G' H' ∧ En X.K c.rs c.H0 G' H' σ' (lpS s') ∧ Ex G G' ∧ Iv s' ∧ μ s' < μ s, fun σ' H' ⟨G', s', a, b, c', d, e⟩ => ⟨μ s', e, G', s', a, b, c', d, rfl⟩, ?_⟩
    refine (hb s).sem _ _ p G2 H2 σ1 (g1.trans g2) (E1.up g2) _ ⟨?_, ?_, ?_, ?_⟩ hx
    · exact fun G4 H4 σ4 s4 g4 x4 E4 p4 => ⟨G4, s4, g4, E4, x2.trans x4, p4.1, p4.2⟩
    · exact fun G4 H4 v b g4 x4 r p4 => k.rt G4 H4 v b g4 (x2.trans x4) r p4
    · exact fun G4 H4 σ4 s4 g4 x4 E4 p4 => (hr s4).sem _ _ p4 G4 H4 σ4 g4 E4 D (k.up (x2.trans x4)) hx
    · exact fun G4 H4 σ4 s4 g4 x4 E4 p4 => ⟨G4, s4, g4, E4, x2.trans x4, p4.1, p4.2⟩
end
end Ty

set_option Elab.async false
set_option linter.all false
set_option maxRecDepth 100000
set_option maxHeartbeats 1000000
set_option autoImplicit false
/-! Ty, part N: methods of own classes called -/
namespace Ty
open PySem PySem.Spec PyProof.Rows L2
/-- such values are instances of C; none of them has a field of that name -/
def InsN (K : Fg) {α : Type} (i : Rp α) (C : Addr) (m : Str) : Prop := ∀ (G : Hp) (v : V) (x : α), i.rp K G v x → ∃ p dx fs, v = .ref p ∧ G p = some (.ins C dx fs) ∧ fs.lookup m = none
def tMethO (C : Addr) (m : Str) (sp : Sp) (E : L2.St → XK) (ta : TE) (t : TA) : TE := fun σ H Q => ta σ H fun x H1 => ∃ a dx fs, x = .ref a ∧ H1 a = some (.ins C dx fs) ∧ fs.lookup m = none ∧ t σ H1 fun vs H2 => sp (x :: vs) H2 Q (E σ)
section
variable {X : Cx} {CX : CXT} {k : Nat} {C f : Addr} {fd : FuncData} {ps : List Str} {sp : Sp} {E : L2.St → XK} {m : Str} {o e : Expr} {es : List Expr} {apos pos : Pos} {ta : TE} {t : TA}
theorem pe_methO {pl : Sem Bool} (he : PE X o ta) (c : Cls X.K C) (hm : Meth X.K C m f) (F : FnOk X.prog X.w X.K X.mg X.base CX k f fd ps sp) (hr : Room k X.A) (hb : Binds X.K fd ps []) (hx : ∀ σ, PassesAt CX X σ (E σ)) (ha : PA X (e :: es) t)
    (hst : starEach (e :: es) X.env = (false, eval e X.env) :: starEach es X.env := by rfl) (hpl : (backTo pos (starEach es X.env)).any (·.1) = false := by rfl)
    (ht : eval (.Call (.Attribute o m apos) (e :: es) [] pos) X.env = (do
      let ov ← eval o X.env
      standAt apos.atName
      let (f, first) ← holding [ov] (getMethod ov m pl)
      callWith pos f first (backTo pos (starEach (e :: es) X.env)) (backToKw pos (keywordEach [] X.env))) := by rfl) :
    PE X (.Call (.Attribute o m apos) (e :: es) [] pos) (tMethO C m sp E ta t) := by
  refine ⟨fun pins s σ H Q I h => ?_⟩
  refine PySem.W.methodCall_KW (pl := pl) (thn (he.run pins s σ H _ I h) fun u s1 ⟨x, H1, I1, rx, a, dx, fs, ex, ea, l, q⟩ => ?_) ht
  subst ex
  obtain rfl : u = Value.ref a := rx
  refine getmeth_ok I1 ea c hm l ?_
  refine PySem.W.callWith_K (first := [.ref a]) (h₀ := X.base) I.ok.mod.kin hm.kp (thn (ha.run pos pins s1 σ H1 _ I1 q) fun us s2 ⟨vs, H2, I2, r, q2⟩ => ⟨I2.kIn, ?_⟩) hst hpl
  exact run_fnS (us := .ref a :: us) (vs := .ref a :: vs) F hr hb (hx σ) I2 (.cons rfl r) q2
theorem pe_methO0 {pl : Sem Bool} (he : PE X o ta) (c : Cls X.K C) (hm : Meth X.K C m f) (F : FnOk X.prog X.w X.K X.mg X.base CX k f fd ps sp) (hr : Room k X.A) (hb : Binds X.K fd ps []) (hx : ∀ σ, PassesAt CX X σ (E σ))
    (ht : eval (.Call (.Attribute o m apos) [] [] pos) X.env = (do
      let ov ← eval o X.env
      standAt apos.atName
      let (f, first) ← holding [ov] (getMethod ov m pl)
      callWith pos f first (backTo pos (starEach [] X.env)) (backToKw pos (keywordEach [] X.env))) := by rfl) :
    PE X (.Call (.Attribute o m apos) [] [] pos) (tMethO C m sp E ta tNil) := by
  refine ⟨fun pins s σ H Q I h => ?_⟩
  refine PySem.W.methodCall_KW (pl := pl) (thn (he.run pins s σ H _ I h) fun u s1 ⟨x, H1, I1, rx, a, dx, fs, ex, ea, l, q⟩ => ?_) ht
  subst ex
  obtain rfl : u = Value.ref a := rx
  refine getmeth_ok I1 ea c hm l ?_
  exact PySem.W.callWith_K0 (first := [.ref a]) I1.kIn hm.kp (run_fnS (us := [.ref a]) (vs := [.ref a]) F hr hb (hx σ) I1 (.cons rfl .nil) q)
variable {c : Cn} {ρ : List Sl} {α β ι : Type} {iα : Rp α} {i : Rp β} {as : ι → List Sl} {Φo : Pt α} {Φr : Pt ι} {Φ : α × ι → Pt β}
/-- o.m(e, ..): K and what errors are to meet by name, so that it may stand in a block -/
theorem e_meth {pl : Sem Bool} (hi : InsN X.K iα C m) (he : JE X c o ρ iα ta Φo) (hc : Cls X.K C) (hm : Meth X.K C m f) (F : FnOk X.prog X.w X.K X.mg X.base (L2.CX X.prog X.w) k f fd ps (spOf X.K rs0 (aCons iα as) i Φ)) (hr : Room k X.A) (hb : Binds X.K fd ps []) (tk : Takes X c.wsh)
    (ha : JA X c (e :: es) ρ as t Φr) (hst : starEach (e :: es) X.env = (false, eval e X.env) :: starEach es X.env := by rfl) (hpl : (backTo pos (starEach es X.env)).any (·.1) = false := by rfl)
    (ht : eval (.Call (.Attribute o m apos) (e :: es) [] pos) X.env = (do
      let ov ← eval o X.env
      standAt apos.atName
      let (f, first) ← holding [ov] (getMethod ov m pl)
      callWith pos f first (backTo pos (starEach (e :: es) X.env)) (backToKw pos (keywordEach [] X.env))) := by rfl) :
    JE X c (.Call (.Attribute o m apos) (e :: es) [] pos) ρ i (tMethO C m (spOf X.K rs0 (aCons iα as) i Φ) (fun σ => L2.WE c.wsh σ) ta t) (fun post ep => Φo (fun z => Φr (fun y => Φ (z, y) post ep) ep) ep) := by
  refine ⟨pe_methO he.pe hc hm F hr hb (fun σ => passAt tk σ) ha.pe hst hpl ht, fun post ep φ G H σ w E Q k hx => ?_⟩
  refine he.sem _ _ φ G H σ w E _ (fun G1 H1 v z g1 r1 φ1 => ?_) hx
  obtain ⟨p, dx, fs, rfl, h1, h2⟩ := hi G1 v z r1
  refine ⟨p, dx, fs, rfl, g1.w.s _ _ h1, h2, ?_⟩
  refine ha.sem _ _ φ1 G1 H1 σ g1.w (E.up g1) _ (fun G2 H2 vs y g2 r2 φ2 => ?_) (hx.up g1)
  have g12 := g1.trans g2
  exact ⟨G2, (z, y), post, ep, g12.w.to0, .cons (.val (Rp.mono g2.g r1)) r2, φ2, fun G' H' v' m' g r p => k G' H' v' m' (g12.trans (g.lift g12.w)) r p, fun G' H' cls d e' g r p => hx G' H' cls d e' (g12.trans (g.lift g12.w)) r p⟩
theorem e_meth0 {pl : Sem Bool} {Φ : α × Unit → Pt β} (hi : InsN X.K iα C m) (he : JE X c o ρ iα ta Φo) (hc : Cls X.K C) (hm : Meth X.K C m f) (F : FnOk X.prog X.w X.K X.mg X.base (L2.CX X.prog X.w) k f fd ps (spOf X.K rs0 (aCons iα aNil) i Φ)) (hr : Room k X.A) (hb : Binds X.K fd ps []) (tk : Takes X c.wsh)
    (ht : eval (.Call (.Attribute o m apos) [] [] pos) X.env = (do
      let ov ← eval o X.env
      standAt apos.atName
      let (f, first) ← holding [ov] (getMethod ov m pl)
      callWith pos f first (backTo pos (starEach [] X.env)) (backToKw pos (keywordEach [] X.env))) := by rfl) :
    JE X c (.Call (.Attribute o m apos) [] [] pos) ρ i (tMethO C m (spOf X.K rs0 (aCons iα aNil) i Φ) (fun σ => L2.WE c.wsh σ) ta tNil) (fun post ep => Φo (fun z => Φ (z, ()) post ep) ep) := by
  refine ⟨pe_methO0 he.pe hc hm F hr hb (fun σ => passAt tk σ) ht, fun post ep φ G H σ w E Q k hx => ?_⟩
  refine he.sem _ _ φ G H σ w E _ (fun G1 H1 v z g1 r1 φ1 => ?_) hx
  obtain ⟨p, dx, fs, rfl, h1, h2⟩ := hi G1 v z r1
  exact ⟨p, dx, fs, rfl, g1.w.s _ _ h1, h2, G1, (z, ()), post, ep, g1.w.to0, .cons (.val r1) .nil, φ1, fun G' H' v' m' g r p => k G' H' v' m' (g1.trans (g.lift g1.w)) r p, fun G' H' cls d e' g r p => hx G' H' cls d e' (g1.trans (g.lift g1.w)) r p⟩
end
end Ty

set_option Elab.async false
set_option linter.all false
set_option maxRecDepth 100000
set_option maxHeartbeats 1000000
set_option autoImplicit false
/-! Ty, part O: constants of the module that are tuples, texts walked -/
namespace Ty
open PySem PySem.Spec PyProof.Rows L2
section
variable {X : Cx} {c : Cn} {ρ : List Sl} {α : Type} {i : Rp α} {pos : Pos}
/-- a tuple of the module -/
theorem e_gtup {x : Str} {a : Addr} {vs : List V} {ms : List α} (hm : X.mg x = some (.ref a)) (hS : ∀ H : Hp, SqT X.K H a vs) (hr : ∀ G : Hp, RpAll i X.K G vs ms) (hz : vs.length ≤ sizeLine := by decide) (hg : Gl X x := by rfl) (hd : (x == ("__debug__" : Str)) = false := by decide) :
    JE X c (.Name x pos) ρ (rpT (i := i)) (tC (.ref a)) (fun post _ => post ⟨ms⟩) :=
  e_glob hm rfl (fun G => ⟨a, vs, rfl, hS G, hr G, hz⟩) hg hd
end
def signs (z : Str) : List Str := z.cps.toList.map fun c => ⟨#[c]⟩
theorem walkG_str {K : Fg} {z : Str} : WalkG K rpS (Its z) (fun _ => True) (signs z) := by
  have hl : (signs z).length = z.cps.size := by simp [signs]
  refine ⟨fun _ _ _ h => h, _, _, hl ▸ walk_str (z := z), fun _ _ _ _ => trivial, fun rs j m G H x H' w h e y => ?_⟩
  obtain ⟨rfl, cc, hc, rfl⟩ := y
  refine ⟨G, Gr.refl w, ?_⟩
  unfold signs at e
  rw [List.getElem?_map, Array.getElem?_toList, hc] at e
  cases e
  rfl
section
variable {X : Cx} {c : Cn} {ρ : List Sl} {tg e : Expr} {te : TE} {Φ : Pt Str}
theorem i_str (he : JE X c e ρ rpS te Φ) : JI X c tg e ρ rpS (iStr te) (fun post ep => Φ (fun z => post (signs z)) ep) := by
  refine ⟨pi_str he.pe, fun post ep φ G H σ w E R k hx => he.sem _ _ φ G H σ w E _ (fun G1 H1 v m g r p => ?_) hx⟩
  exact ⟨m, r, k G1 H1 _ _ _ g walkG_str trivial p⟩
end
/-! ### enumerate, zip of lists -/
def enumI {α : Type} (xs : List α) : List (Int × α) := xs.zipIdx.map fun p => ((p.2 : Int), p.1)
theorem enumI_len {α : Type} (xs : List α) : (enumI xs).length = xs.length := by simp [enumI]
theorem enumI_at {α : Type} {xs : List α} {j : Nat} {p : Int × α} (h : (enumI xs)[j]? = some p) : p.1 = (j : Int) ∧ xs[j]? = some p.2 := by
  unfold enumI at h
  rw [List.getElem?_map, List.getElem?_zipIdx] at h
  cases e : xs[j]? with
  | none =>
    rw [e] at h
    cases h
  | some y =>
    rw [e] at h
    simp at h
    subst h
    exact ⟨rfl, rfl⟩
theorem walkG_en {K : Fg} {α : Type} {i : Rp α} {a : Addr} {vs : List V} {xs : List α} (hl : vs.length = xs.length) : WalkG K (rp2 (i := rpI) (j := i)) (Ite K a) (fun G => G a = some (.lst vs) ∧ RpAll i K G vs xs) (enumI xs) := by
  have hl2 : (enumI xs).length = vs.length := by rw [enumI_len, hl]
  refine ⟨fun G G' e h => ⟨e _ _ h.1, h.2.mono e⟩, _, _, hl2 ▸ walk_enum (K := K) (a := a) (xs := vs), fun G H e h => SqL.of (e _ _ h.1), fun rs j m G H x H' w h e y => ?_⟩
  obtain ⟨T, x1, y1, rfl, hT, rfl, ex, ey⟩ := y
  obtain ⟨e1, e2⟩ := enumI_at e
  obtain ⟨v, h1, h2⟩ := h.2.get e2
  have ey : vs[j]? = some y1 := ey
  rw [ey] at h1
  cases h1
  cases ex
  have g := gr_new (o := .tup [.int (j : Int), y1]) w hT
  exact ⟨_, g, T, _, _, rfl, SqT.of upd_same, by show V.int _ = V.int _; rw [e1], Rp.mono g.g h2⟩
section
variable {X : Cx} {c : Cn} {ρ : List Sl} {α : Type} {i : Rp α} {e : Expr} {t : TA} {Φ : Pt (List α × Unit)} {elts : List Expr} {kk : Nat} {p pos tpos : Pos}
/-- for k, x in enumerate(xs) -/
theorem i_enum (hg : Gl X "enumerate") (hm : X.mg "enumerate" = none) (ha : JA X c [e] ρ (aCons (rpL (i := i)) aNil) t Φ) (hs : starEach [e] X.env = [(false, eval e X.env)] := by rfl) :
    JI X c (.Tuple elts kk tpos) (.Call (.Name "enumerate" p) [e] [] pos) ρ (rp2 (i := rpI) (j := i)) (iEnum X.K t) (fun post ep => Φ (fun xs => post (enumI xs.1)) ep) := by
  refine ⟨pi_enum hg hm ha.pe hs, fun post ep φ G H σ w E R k hx => ha.sem _ _ φ G H σ w E _ (fun G1 H1 vs m g r p => ?_) hx⟩
  obtain ⟨v, rfl, a, us, rfl, h1, h2, h3⟩ := one1 r
  exact ⟨a, us, rfl, SqL.of (g.w.s _ _ h1), k G1 H1 _ _ _ g (walkG_en h2.length) ⟨h1, h2⟩ p⟩
end
end Ty

set_option Elab.async false
set_option linter.all false
set_option maxRecDepth 100000
set_option maxHeartbeats 1000000
set_option autoImplicit false
/-! Ty, part P: zip of lists -/
namespace Ty
open PySem PySem.Spec PyProof.Rows L2
theorem walkG_zip {K : Fg} {α β : Type} {i : Rp α} {j : Rp β} {a b : Addr} {vs us : List V} {xs : List α} {ys : List β} (h1 : vs.length = xs.length) (h2 : us.length = ys.length) :
    WalkG K (rp2 (i := i) (j := j)) (Itz K a b) (fun G => (G a = some (.lst vs) ∧ G b = some (.lst us)) ∧ RpAll i K G vs xs ∧ RpAll j K G us ys) (xs.zip ys) := by
  have hl : (xs.zip ys).length = min vs.length us.length := by rw [List.length_zip, h1, h2]
  refine ⟨fun G G' e h => ⟨⟨e _ _ h.1.1, e _ _ h.1.2⟩, h.2.1.mono e, h.2.2.mono e⟩, _, _, walk_zip (K := K) (a := a) (b := b) (xs := vs) (ys := us) hl, fun G H e h => ⟨SqL.of (e _ _ h.1.1), SqL.of (e _ _ h.1.2)⟩, fun rs k m G H x H' w h e y => ?_⟩
  obtain ⟨T, x1, y1, rfl, hT, rfl, ex, ey⟩ := y
  have ex : vs[k]? = some x1 := ex
  have ey : us[k]? = some y1 := ey
  obtain ⟨m1, q1, r1⟩ := h.2.1.getV ex
  obtain ⟨m2, q2, r2⟩ := h.2.2.getV ey
  have em : m = (m1, m2) := by
    rw [List.getElem?_zip_eq_some] at e
    obtain ⟨e1, e2⟩ := e
    rw [q1] at e1
    rw [q2] at e2
    cases m
    cases e1
    cases e2
    rfl
  subst em
  have g := gr_new (o := .tup [x1, y1]) w hT
  exact ⟨_, g, T, _, _, rfl, SqT.of upd_same, Rp.mono g.g r1, Rp.mono g.g r2⟩
section
variable {X : Cx} {c : Cn} {ρ : List Sl} {α β : Type} {i : Rp α} {j : Rp β} {e e2 : Expr} {t : TA} {Φ : Pt (List α × List β × Unit)} {elts : List Expr} {kk : Nat} {p pos tpos : Pos}
/-- for x, y in zip(xs, ys) -/
theorem i_zip (hg : Gl X "zip") (hm : X.mg "zip" = none) (ha : JA X c [e, e2] ρ (aCons (rpL (i := i)) (aCons (rpL (i := j)) aNil)) t Φ) (hs : starEach [e, e2] X.env = (false, eval e X.env) :: starEach [e2] X.env := by rfl) (hpl : (backTo pos (starEach [e2] X.env)).any (·.1) = false := by rfl) :
    JI X c (.Tuple elts kk tpos) (.Call (.Name "zip" p) [e, e2] [] pos) ρ (rp2 (i := i) (j := j)) (iZip X.K t) (fun post ep => Φ (fun xs => post (xs.1.zip xs.2.1)) ep) := by
  refine ⟨pi_zip hg hm ha.pe hs hpl, fun post ep φ G H σ w E R k hx => ha.sem _ _ φ G H σ w E _ (fun G1 H1 vs m g r p => ?_) hx⟩
  obtain ⟨v, u, rfl, ⟨a, us, rfl, h1, h2, h3⟩, ⟨b, ws, rfl, h4, h5, h6⟩⟩ := two2 r
  exact ⟨a, b, us, ws, rfl, SqL.of (g.w.s _ _ h1), SqL.of (g.w.s _ _ h4), k G1 H1 _ _ _ g (walkG_zip h2.length h5.length) ⟨⟨h1, h4⟩, h2, h5⟩ p⟩
end
end Ty

set_option Elab.async false
set_option linter.all false
set_option maxRecDepth 100000
set_option maxHeartbeats 1000000
set_option autoImplicit false
/-! Ty, part R: super() (the activation is known), defs that close over their class, errors that are made -/
namespace Ty
open PySem PySem.Spec PyProof.Rows L2 NdefX ClX

abbrev wAt (X : Cx) (body : List Stmt) {α : Type} (m : Sem α) (Q : α → Shared → Prop) (s : Shared) : Prop := PySem.wpAt (model X.prog X.w) X.A (.func body X.env) m Q X.xe s
structure EAt (X : Cx) (body : List Stmt) (e : Expr) (t : TE) : Prop where
  run : ∀ (pins : List (Addr × Obj)) (s : Shared) (σ : L2.St) (H : Hp) (Q : VK), Inv X pins σ H s → t σ H Q → wAt X body (eval e X.env) (EP X pins σ Q) s
structure SAt (X : Cx) (body : List Stmt) (st : Stmt) (t : TS) : Prop where
  run : ∀ (pins : List (Addr × Obj)) (s : Shared) (σ : L2.St) (H : Hp) (D : Ends), Inv X pins σ H s → t D σ H → wAt X body (exec st X.env) (SP X pins D) s
structure SsAt (X : Cx) (body ss : List Stmt) (t : TS) : Prop where
  run : ∀ (pins : List (Addr × Obj)) (s : Shared) (σ : L2.St) (H : Hp) (D : Ends), Inv X pins σ H s → t D σ H → wAt X body (execs ss X.env) (SP X pins D) s
section
variable {X : Cx} {body rest ss : List Stmt} {st : Stmt} {e : Expr} {te : TE} {t u : TS} {pos pos' : Pos}
theorem SAt.of (h : PS X st t) : SAt X body st t := ⟨fun pins s σ H D I q => PySem.wpAt_of_wpAny (h.run pins s σ H D I q)⟩
theorem SsAt.of (h : PSs X ss t) : SsAt X body ss t := ⟨fun pins s σ H D I q => PySem.wpAt_of_wpAny (h.run pins s σ H D I q)⟩
theorem ssAt_cons (h1 : SAt X body st t) (h2 : SsAt X body rest u) : SsAt X body (st :: rest) (tSeq t u) := by
  refine ⟨fun pins s σ H D I h => ks_wpAt_execs_cons (PySem.wpAt_mono (h1.run pins s σ H { D with nx := u D } I h) (fun f s1 q => ?_) fun _ _ x => x)⟩
  cases f with
  | next =>
    obtain ⟨σ', H', I', q⟩ := q
    exact h2.run pins s1 σ' H' D I' q
  | ret v => exact q
  | brk => exact q
  | cont => exact q
theorem sAt_expr (he : EAt X body e te) (hs : swapsWith e none pos.line X.env = pure false := by rfl) : SAt X body (.Expr e pos) (tDrop te) := by
  refine ⟨fun pins s σ H D I h => ks_wpAt_Expr_any (PySem.wpAt_mono (he.run pins s σ H _ I h) (fun v s1 q => ?_) fun _ _ x => x) I.quiet hs⟩
  obtain ⟨x, H1, I1, r1, q1⟩ := q
  exact ⟨σ, H1, I1, q1⟩
theorem sAt_ret (he : EAt X body e te) : SAt X body (.Return (some e) pos) (tRet te) := by
  refine ⟨fun pins s σ H D I h => ks_wpAt_Return_some (PySem.wpAt_mono (he.run pins s σ H _ I h) (fun v s1 q => ?_) fun _ _ x => x)⟩
  obtain ⟨x, H1, I1, r1, q1⟩ := q
  exact ⟨x, σ, H1, I1, r1, q1⟩
theorem sAt_asg {i : Nat} {x : Str} (he : EAt X body e te) (hN : X.N.Nodup) (hi : X.N[i]? = some x) (hx : X.env.scope.names.lookup x = some .local) (hs : swapsWith e (some (.Name x pos')) pos.line X.env = pure false := by rfl) :
    SAt X body (.Assign [.Name x pos'] e pos) (tAsg te (gName i)) := by
  refine ⟨fun pins s σ H D I h => ks_wpAt_Assign_Name (PySem.wpAt_mono (he.run pins s σ H _ I h) (fun v s1 q => ?_) fun _ _ x => x) hs⟩
  obtain ⟨y, H1, I1, r1, q1⟩ := q
  exact store_ok I1 hN hi (.inl hx) r1 (fun s2 I2 => ⟨_, H1, I2, q1⟩) (.inr hx)
end

/-! ### a def that closes over its class -/
section
variable {CX : CXT} {P : Program} {w : World} {K : Fg} {mg : Str → Option Value} {base : Heap} {N ps : List Str} {F : NF} {f cc : Addr} {k : Nat} {sp : Sp} {fd : FuncData}
/-- what K holds of the function at f: F, over the cell at cc that holds the class D -/
structure SupD (K : Fg) (P : Program) (F : NF) (f D cc : Addr) (fd : FuncData) : Prop where
  cl : F.cl = [(("__class__" : Str), cc)]
  fn : ∃ oc od doc pm an ct osl, fd = PySem.W.fnX F.name F.qual F.params F.body F.scope F.cl .none .none doc pm an (.ref F.c) ct ∧ K.lookup f = some ⟨oc, od, .func fd, osl⟩
  kp : PySem.W.keepIn K (.ref f) = true
  nm : PySem.W.codeIn K (.ref F.c) F.qual = true
  self : ∃ ar : Arg, (F.params.posonlyargs ++ F.params.args).head? = some ar ∧ ar.arg = ("self" : Str)
  code : ∃ ccl cdd vs ccs file tf, K.lookup F.c = some ⟨ccl, cdd, .fields vs, ccs⟩ ∧ vs[2]? = some (.str file tf) ∧ ((P.main.file : Str) == file) = true
  cell : ∃ cl cld csl, K.lookup cc = some ⟨cl, cld, .cell (some (.ref D)), csl⟩
  cls : ∃ cd, PySem.W.clsIn K D = some cd
  top : (P.main.scope.names.lookup ("super" : Str)).isSome = false
  opq : PySem.W.nsIn K cStatics "thirdparty.any" = some none
theorem SupD.cells {D : Addr} {s : Shared} {H : Hp} {A : Around} {outer : List Env} (U : SupD K P F f D cc fd) (e0 : Env0 P w K mg base A outer s H) : CellsAt F.cl [("__class__" : Str)] [none] s.heap H := by
  obtain ⟨c1, c2, c3, hc⟩ := U.cell
  have hb := e0.bs _ _ (e0.mod.kin _ _ hc)
  have at_ : ∀ (y : Str) (c : Addr), F.cl.lookup y = some c → y = ("__class__" : Str) ∧ c = cc := fun y c e => by
    rw [U.cl] at e
    have e2 : (match y == ("__class__" : Str) with | true => some cc | false => none) = some c := e
    cases z : (y == ("__class__" : Str)) with
    | true =>
      rw [z] at e2
      exact ⟨beq_iff_eq.mp z, (Option.some.inj e2).symm⟩
    | false =>
      rw [z] at e2
      cases e2
  refine ⟨rfl, fun y c e => ?_, fun x y c e1 e2 => ?_, fun i y e => ?_⟩
  · obtain ⟨_, rfl⟩ := at_ y c e
    exact ⟨hb.2, _, _, hb.1, rfl⟩
  · exact (at_ x c e1).1.trans (at_ y c e2).1.symm
  · cases i with
    | zero =>
      have e : some ("__class__" : Str) = some y := e
      cases e
      exact ⟨cc, by rw [U.cl] <;> rfl, fun v z => by cases z⟩
    | succ i => cases e
theorem fnS_of {D : Addr} (U : SupD K P F f D cc fd) (S : NScope N ps [("__class__" : Str)] F.scope) (len : ∀ vs H Q E, sp vs H Q E → vs.length = ps.length)
    (hbody : ∀ (A : Around) (outer : List Env) (s : Shared) (H : Hp) (vs : List V) (Q : VK) (E : XK), Room k (A.deeper (envF F f s.heap.objs.size)) → sp vs H Q E →
      ∃ t, SsAt (ncx CX P w K mg base N F f A outer s H E) F.body F.body t ∧ t { nx := fun _ H' => Q .non H', rt := Q } (startF N vs [none]) H) : FnOk P w K mg base CX (k + 1) f fd ps sp := by
  obtain ⟨oc, od, doc, pm, an, ct, osl, rfl, lk⟩ := U.fn
  refine ⟨len, fun A outer s H args us vs Q E hr e0 hb r hsp => ?_⟩
  have KX : K.In s.heap := e0.mod.kin.keeps fun b o e => (e0.bs b o e).1
  refine ks_codeAny_call_defAt (body := F.body) (binds := ps.zip us) hr.depth (KX _ _ lk) rfl (e0.mod.nolimit.keeps fun b o e => (e0.bs b o e).1) (PySem.W.codeRec_of KX U.nm) rfl hb S.nocell (fun y hy => S.par y.1 (List.of_mem_zip hy).1) (fun h₁ hns hk => ?_) S.co S.gen S.kind
  obtain ⟨t, ht, hq⟩ := hbody A outer s H vs Q E (hr.deeper _) hsp
  have I := inv_startN (CX := CX) (E := E) (f := f) (tk := s.toks + (ps.zip us).length) S hr.hd e0 (len _ _ _ _ hsp) r (U.cells e0) hns hk
  refine PySem.wpAt_mono (ht.run [] _ _ H _ I hq) (fun fl s' hs => ?_) fun e s' hs => hs
  cases fl with
  | ret u =>
    obtain ⟨v, σ', H', J, rv, q⟩ := hs
    exact ⟨v, H', J.os, J.bare, J.base, J.hok, rv, q⟩
  | next =>
    obtain ⟨σ', H', J, q⟩ := hs
    exact ⟨V.non, H', J.os, J.bare, J.base, J.hok, rfl, q⟩
  | brk =>
    obtain ⟨_, _, _, q⟩ := hs
    exact False.elim q
  | cont =>
    obtain ⟨_, _, _, q⟩ := hs
    exact False.elim q

/-! ### super() -/
abbrev supO (D x C : Addr) : Obj := PySem.W.ks_superObj D x C
theorem sup_base {A : Around} {outer : List Env} {s0 s : Shared} {H0 H : Hp} {E : XK} {pins : List (Addr × Obj)} {σ : L2.St} {D x C : Addr} {ox : Obj} {attr : Str} {p0 p1 : Pos} {whole : Sem Value} {Q : Value → Shared → Prop} {body : List Stmt}
    (U : SupD K P F f D cc fd) (hmg : mg "super" = none) (hk : F.scope.kind = .function) (I : Inv (ncx CX P w K mg base N F f A outer s0 H0 E) pins σ H s) (hN : N[0]? = some ("self" : Str)) (hs1 : F.scope.names.lookup ("self" : Str) = some .local) (hs2 : F.scope.names.lookup ("super" : Str) = some .globalImplicit)
    (hs3 : F.scope.names.lookup ("__class__" : Str) = some .free) (hσ : σ[0]? = some (some (.ref x))) (hx : s.heap.get? x = some ox) (hc : ox.cls = .ref C) (hd : ∀ c, ox.data ≠ .cls c) (hsub : PySem.W.mroIn K C (.ref D) = some true) (hat : (attr == ("__class__" : Str)) = false)
    (h : ∀ so h', h'.get? so = some (supO D x C) → (∀ b o, s.heap.get? b = some o → h'.get? b = some o) → Q (.ref so) { s with heap := h' }) :
    wAt (ncx CX P w K mg base N F f A outer s0 H0 E) body (attributeBase (.Call (.Name "super" p0) [] [] p1) attr (envF F f s0.heap.objs.size) whole) Q s := by
  obtain ⟨oc, od, doc, pm, an, ct, osl, rfl, lk⟩ := U.fn
  obtain ⟨ar, hp, har⟩ := U.self
  obtain ⟨ccl, cdd, vs, ccs, file, tf, hcode, hvs, hfile⟩ := U.code
  obtain ⟨cl, cld, csl, hcell⟩ := U.cell
  obtain ⟨cd, hcd⟩ := U.cls
  have KX : K.In s.heap := I.kIn
  obtain ⟨oD, hD1, hD2⟩ : ∃ oD, s.heap.get? D = some oD ∧ oD.data = .cls cd := by
    unfold PySem.W.clsIn at hcd
    split at hcd
    · rename_i ho
      cases hcd
      exact ⟨_, KX _ _ ho, rfl⟩
    · cases hcd
  obtain ⟨mb, b1, b2⟩ := I.mod.blt
  obtain ⟨m, hns, hl⟩ := id I.loc
  obtain ⟨u, ru, lu⟩ := hl 0 "self" (.ref x) hN hσ (.inl hs1)
  obtain rfl : u = Value.ref x := ru
  have hm : m "self" = some (Value.ref x) := by
    rcases lu with ⟨_, z⟩ | ⟨z, _⟩
    · exact z
    · have z : F.scope.names.lookup ("self" : Str) = some .cell ∨ F.scope.names.lookup ("self" : Str) = some .free := z
      rw [hs1] at z
      rcases z with z | z <;> cases z
  have hclo : (envF F f s0.heap.objs.size).cells.lookup ("__class__" : Str) = some cc := by
    show F.cl.lookup _ = _
    rw [U.cl] <;> rfl
  obtain ⟨hh, g, d, t, os⟩ := s
  refine ks_wpAt_super_base (env := envF F f s0.heap.objs.size) hs2 hs3 hat rfl (KX _ _ lk) rfl hp rfl (KX _ _ hcode) rfl hvs hfile U.top ?_
  have bsup : bootBuiltins "super" = some (.type "super") := by first | rfl | kernel_rfl
  refine PySem.W.ks_loadName_global hk hs2 (Calls.loadGlobal_builtin (I.mod.glob.keeps I.bk) hmg (b1.keeps I.bk) ((b2 _ (by decide)).trans bsup) ⟨rfl, ?_⟩)
  refine wpAny_loadName_free hk hs3 hclo ⟨_, KX _ _ hcell, rfl⟩ ?_
  refine wpAny_loadName_local hk (by rw [har]; exact hs1) hns (by rw [har]; exact hm) ?_
  refine ks_wpAny_isType_cls hD1 hD2 ⟨rfl, ?_⟩
  exact ks_wpAny_call_super hD1 hD2 hx hc hd (PySem.W.looks_mroIn KX hsub) fun h' e k => h _ h' e k
end
end Ty

set_option Elab.async false
set_option linter.all false
set_option maxRecDepth 100000
set_option maxHeartbeats 1000000
set_option autoImplicit false
/-! Ty, part S: super().m(..) of an own class, super().__init__(..) of an own error -/
namespace Ty
open PySem PySem.Spec PyProof.Rows L2 NdefX ClX

/-- from the class D on, the method m of the instances of C is the function at f2 -/
structure SupTo (K : Fg) (D C : Addr) (m : Str) (f2 : Addr) : Prop where
  sub : PySem.W.mroIn K C (.ref D) = some true
  at_ : PySem.W.ks_superIn K C D m = some (some (.ref f2))
/-- .. of an error: ValueError's own -/
structure SupEr (K : Fg) (D C : Addr) : Prop where
  sub : PySem.W.mroIn K C (.ref D) = some true
  at_ : PySem.W.ks_superIn K C D "__init__" = some (some (.builtin "ValueError.__init__"))
  ve : PySem.W.subIn K (.ref C) (.type "ValueError") = some true
def tSupM (K : Fg) (D f2 : Addr) (m : Str) (sp : Sp) (E : L2.St → XK) (t : TA) : TE := fun σ H Q => ∃ a C dx fs, σ[0]? = some (some (.ref a)) ∧ H a = some (.ins C dx fs) ∧ SupTo K D C m f2 ∧ t σ H fun vs H2 => sp (.ref a :: vs) H2 Q (E σ)
def tSupE (K : Fg) (D : Addr) (t : TA) : TE := fun σ H Q => ∃ a C, σ[0]? = some (some (.ref a)) ∧ H a = some (exo a C none) ∧ OexC K C ∧ SupEr K D C ∧ t σ H fun ws H1 => ws.length ≤ 1000 ∧ H1 a = some (exo a C none) ∧ Q .non H1
theorem super_get {K : Fg} {M : Model} {h : Heap} {C D : Addr} {m : Str} {r : Option Value} (X : K.In h) (e : PySem.W.ks_superIn K C D m = some r) : ∃ l₀, PySem.W.Looks M h (mroOf (.ref C)) l₀ ∧ PySem.W.alongIn K m ((l₀.dropWhile (· != .ref D)).drop 1) = some r ∧ ∃ cd, PySem.W.clsIn K C = some cd := by
  unfold PySem.W.ks_superIn at e
  cases hc : PySem.W.clsIn K C with
  | none =>
    rw [hc] at e
    cases e
  | some cd =>
    rw [hc] at e
    exact ⟨cd.mro, (PySem.W.looks_clsIn X hc).andThen .now, e, cd, rfl⟩
section
variable {CX : CXT} {P : Program} {w : World} {K : Fg} {mg : Str → Option Value} {base : Heap} {N ps : List Str} {F : NF} {f cc D f2 : Addr} {k : Nat} {sp : Sp} {fd fd2 : FuncData} {A : Around} {outer : List Env} {s0 : Shared} {H0 : Hp} {E0 : XK} {E : L2.St → XK} {m : Str} {e : Expr} {es : List Expr} {t : TA} {p0 p1 apos pos : Pos} {body : List Stmt}
theorem inst_of {X : Cx} {pins : List (Addr × Obj)} {σ : L2.St} {H : Hp} {s : Shared} {a C dx : Addr} {fs : List (Str × V)} (I : Inv X pins σ H s) (h : H a = some (.ins C dx fs)) : ∃ ox, s.heap.get? a = some ox ∧ ox.cls = .ref C ∧ ∀ c, ox.data ≠ .cls c := by
  obtain ⟨_, _, _, e, _⟩ := I.hok a _ h
  exact ⟨_, e, rfl, fun c z => nomatch z⟩
theorem eAt_sup {pl : Sem Bool} (U : SupD K P F f D cc fd) (hmg : mg "super" = none) (hk : F.scope.kind = .function) (hN : N[0]? = some ("self" : Str)) (hs1 : F.scope.names.lookup ("self" : Str) = some .local) (hs2 : F.scope.names.lookup ("super" : Str) = some .globalImplicit)
    (hs3 : F.scope.names.lookup ("__class__" : Str) = some .free) (hat : (m == ("__class__" : Str)) = false) (ht2 : PySem.W.typeIn K (.ref f2) = some (.type "function")) (hf2 : PySem.W.fnIn K f2 = true)
    (G : FnOk P w K mg base CX k f2 fd2 ps sp) (hr : Room k (A.deeper (envF F f s0.heap.objs.size))) (hb : Binds K fd2 ps []) (hx : ∀ σ, PassesAt CX (ncx CX P w K mg base N F f A outer s0 H0 E0) σ (E σ)) (ha : PA (ncx CX P w K mg base N F f A outer s0 H0 E0) (e :: es) t)
    (hst : starEach (e :: es) (envF F f s0.heap.objs.size) = (false, eval e (envF F f s0.heap.objs.size)) :: starEach es (envF F f s0.heap.objs.size) := by rfl) (hpl : (backTo pos (starEach es (envF F f s0.heap.objs.size))).any (·.1) = false := by rfl)
    (ht : eval (.Call (.Attribute (.Call (.Name "super" p0) [] [] p1) m apos) (e :: es) [] pos) (envF F f s0.heap.objs.size) = (do
      let ov ← attributeBase (.Call (.Name "super" p0) [] [] p1) m (envF F f s0.heap.objs.size) (eval (.Call (.Name "super" p0) [] [] p1) (envF F f s0.heap.objs.size))
      standAt apos.atName
      let (g, first) ← holding [ov] (getMethod ov m pl)
      callWith pos g first (backTo pos (starEach (e :: es) (envF F f s0.heap.objs.size))) []) := by rfl) :
    EAt (ncx CX P w K mg base N F f A outer s0 H0 E0) body (.Call (.Attribute (.Call (.Name "super" p0) [] [] p1) m apos) (e :: es) [] pos) (tSupM K D f2 m sp E t) := by
  refine ⟨fun pins s σ H Q I h => ?_⟩
  obtain ⟨a, C, dx, fs, hσ, ea, T, q⟩ := h
  obtain ⟨ox, hx1, hx2, hx3⟩ := inst_of I ea
  refine ks_wpAt_MethodCall (sup_base (Q := _) U hmg hk I hN hs1 hs2 hs3 hσ hx1 hx2 hx3 T.sub hat fun so h' hso kp => ?_) ht
  have I1 : Inv (ncx CX P w K mg base N F f A outer s0 H0 E0) pins σ H { s with heap := h' } := I.kept (t' := s.toks) kp
  have X1 : K.In h' := I1.kIn
  obtain ⟨l₀, L0, hal, cd, hcd⟩ := super_get (M := model P w) X1 T.at_
  obtain ⟨of, hof, hofc⟩ : ∃ of, h'.get? f2 = some of ∧ of.cls = .type "function" := by
    have z : (K.lookup f2).map (·.cls) = some (.type "function") := ht2
    obtain ⟨of, z1, z2⟩ := Option.map_eq_some_iff.mp z
    exact ⟨of, X1 _ _ z1, z2⟩
  have hxC : a ≠ C := fun z => by
    subst z
    unfold PySem.W.clsIn at hcd
    split at hcd
    · rename_i ho
      have y := X1 _ _ ho
      rw [kp _ _ hx1] at y
      cases y
      exact hx3 _ rfl
    · cases hcd
  obtain ⟨hh, g, d, tk, os⟩ := s
  refine ks_wpAny_getMethod_super hso (PySem.W.looks_opaque X1 U.opq) L0 rfl X1 hal hof hofc hxC hat ?_
  have I2 := met_new (g := f2) (C := a) I1
  refine callwith_cm I2 (base_none I1 (Nat.le_refl _)) hf2 (thn (ha.run pos _ _ σ H _ I2 q) fun us s3 ⟨vs, H2, I3, rv, q2⟩ => ⟨⟨pin_at I3, I3.kIn⟩, ?_⟩) hst hpl
  have hl : (Value.ref a :: us).length = ps.length := by
    have y := G.len _ _ _ _ q2
    rw [← y, List.length_cons, List.length_cons, rv.length]
  have b2 := hb s3 (Value.ref a :: us) I3.kIn (by rw [List.append_nil]; exact hl)
  rw [List.append_nil] at b2
  have z : wpAny (model P w) (A.deeper (envF F f s0.heap.objs.size)) (call (.ref h'.objs.size) us) (EP (ncx CX P w K mg base N F f A outer s0 H0 E0) ((h'.objs.size, PySem.W.methodObj (.ref f2) (.ref a)) :: pins) σ Q) (ncx CX P w K mg base N F f A outer s0 H0 E0).xe s3 := by
    refine wpAny_call (PySem.W.method_call (pin_at I3) (codeAny_mono (G.run _ _ s3 H2 ⟨Value.ref a :: us, []⟩ (Value.ref a :: us) (V.ref a :: vs) Q (E σ) hr I3.env0 b2 (.cons rfl rv) q2) fun r s' hq => ?_))
    cases r with
    | error er => exact hx σ _ H2 s3 er s' I3 hq
    | ok fl =>
      cases fl with
      | ret u => exact I3.after hq
      | next => exact False.elim hq
      | brk => exact False.elim hq
      | cont => exact False.elim hq
  exact thn z fun _ _ y => unpinE y

/-! ### an error's __init__ -/
abbrev veInit : String := "ValueError.__init__"
theorem mw_run {X : Cx} {pins : List (Addr × Obj)} {σ : L2.St} {H : Hp} {s : Shared} {a C u : Addr} {us : List Value} {Q : Value → Shared → Prop} {Er : Value → Shared → Prop} {A : Around} (T : OexC X.K C) (I : Inv X pins σ H s) (ea : H a = some (exo a C none)) (hu : s.heap.get? u = some (PySem.W.kxs_mw veInit a)) (hl : us.length ≤ sizeLine)
    (h : ∀ s', Inv X pins σ H s' → Q .none s') : wpAny (model X.prog X.w) A (call (.ref u) us) Q Er s := by
  obtain ⟨nm, q, Ns, bs, bm, sn, sub, ab, col, dd, k0, k1, k2, k3, k5, hC, hbm⟩ := T.cls
  obtain ⟨t1, ho⟩ := exo_at I.hok ea
  have hC1 := I.kIn _ _ hC
  have fin : ∀ h', (∀ b o, b ≠ a → s.heap.get? b = some o → h'.get? b = some o) → (∃ t2 : Addr, h'.get? a = some ({ cls := .ref C, dict := none, data := .fields #[.ref t2, .none, .none, .none, .bool false, .none] } : Obj)) → Q .none { s with heap := h' } := fun h' k hx => by
    obtain ⟨t2, hx⟩ := hx
    have J := I.write (t' := s.toks) (x := a) (e := a) (o := exo a C none) (by rw [ea]; trivial) (.inl rfl) k ⟨_, hx⟩ (exo_ok hx)
    have eu : upd H a (exo a C none) = H := funext fun b => by
      by_cases hb : b = a
      · rw [hb, upd_same, ea]
      · exact upd_ne hb
    rw [eu] at J
    exact h _ J
  obtain ⟨hh, g, d, tk, os⟩ := s
  refine wpAny_call (codeAny_of_tree ?_)
  show wpAny _ A.in1 (callAny (.ref u) ⟨us, []⟩) _ _ _
  unfold callAny
  refine wpAny_bind (wpAny_load hu ?_)
  dsimp only [PySem.W.kxs_mw]
  rw [if_pos (by decide)]
  refine wpAny_bind (PySem.W.check_bound_init PySem.F.excBase_ValueError.toExcCallFacts hC1 ho rfl ?_)
  refine wpAny_bind (wpAny_pure (wpAny_pure ⟨plainId_quiet PySem.F.excBase_ValueError.init.plain _, codeAny_builtin PySem.F.excBase_ValueError.initEntry ?_⟩))
  exact PySem.W.exc_init_tree (cls := .ref C) (t0 := t1) (dv := none) (c2 := .none) (c3 := .none) (b4 := .bool false) ho hl fun h' k e1 _ => fin h' k ⟨_, e1⟩
theorem eAt_supE {pl : Sem Bool} (U : SupD K P F f D cc fd) (hmg : mg "super" = none) (hk : F.scope.kind = .function) (hN : N[0]? = some ("self" : Str)) (hs1 : F.scope.names.lookup ("self" : Str) = some .local) (hs2 : F.scope.names.lookup ("super" : Str) = some .globalImplicit)
    (hs3 : F.scope.names.lookup ("__class__" : Str) = some .free) (ha : PA (ncx CX P w K mg base N F f A outer s0 H0 E0) (e :: es) t)
    (hst : starEach (e :: es) (envF F f s0.heap.objs.size) = (false, eval e (envF F f s0.heap.objs.size)) :: starEach es (envF F f s0.heap.objs.size) := by rfl) (hpl : (backTo pos (starEach es (envF F f s0.heap.objs.size))).any (·.1) = false := by rfl)
    (ht : eval (.Call (.Attribute (.Call (.Name "super" p0) [] [] p1) "__init__" apos) (e :: es) [] pos) (envF F f s0.heap.objs.size) = (do
      let ov ← attributeBase (.Call (.Name "super" p0) [] [] p1) "__init__" (envF F f s0.heap.objs.size) (eval (.Call (.Name "super" p0) [] [] p1) (envF F f s0.heap.objs.size))
      standAt apos.atName
      let (g, first) ← holding [ov] (getMethod ov "__init__" pl)
      callWith pos g first (backTo pos (starEach (e :: es) (envF F f s0.heap.objs.size))) []) := by rfl) :
    EAt (ncx CX P w K mg base N F f A outer s0 H0 E0) body (.Call (.Attribute (.Call (.Name "super" p0) [] [] p1) "__init__" apos) (e :: es) [] pos) (tSupE K D t) := by
  refine ⟨fun pins s σ H Q I h => ?_⟩
  obtain ⟨a, C, hσ, ea, T, Z, q⟩ := h
  obtain ⟨t1, hx1⟩ := exo_at I.hok ea
  refine ks_wpAt_MethodCall (sup_base (Q := _) U hmg hk I hN hs1 hs2 hs3 hσ hx1 rfl (fun c z => nomatch z) Z.sub (by decide) fun so h' hso kp => ?_) ht
  have I1 : Inv (ncx CX P w K mg base N F f A outer s0 H0 E0) pins σ H { s with heap := h' } := I.kept (t' := s.toks) kp
  have X1 : K.In h' := I1.kIn
  obtain ⟨l₀, L0, hal, cd, hcd⟩ := super_get (M := model P w) X1 Z.at_
  have hxC : a ≠ C := fun z => by
    subst z
    unfold PySem.W.clsIn at hcd
    split at hcd
    · rename_i ho
      have y := X1 _ _ ho
      rw [kp _ _ hx1] at y
      cases y
    · cases hcd
  have LT : PySem.W.Looks (model P w) h' (typeOf (.ref a)) (.ref C) := fun A Q E s k q => wpAny_typeOf_ref (k _ _ (kp _ _ hx1)) q
  obtain ⟨hh, g, d, tk, os⟩ := s
  refine PySem.W.kxs_getMethod PySem.W.kxs_ValueError hso (PySem.W.looks_opaque X1 U.opq) L0 rfl X1 hal (LT.andThen (PySem.W.looks_subIn X1 Z.ve)) hxC (by decide) ?_
  have I2 : Inv (ncx CX P w K mg base N F f A outer s0 H0 E0) ((h'.objs.size, PySem.W.kxs_mw veInit a) :: pins) σ H ⟨h'.push (PySem.W.kxs_mw veInit a), g, d, tk + 1, os⟩ :=
    pin_new I1 (fun _ _ z => Heap.get?_push_of_some _ z) (Nat.le_refl _) (Heap.get?_push_size h' rfl) fun v z => nomatch z
  have hL := (I2.pin (h'.objs.size, PySem.W.kxs_mw veInit a) (List.mem_append_right _ List.mem_cons_self)).2.2.1
  refine PySem.W.kxs_callWith1 (i := veInit) (x := a) (news_at hL (base_none I1 (Nat.le_refl _)) (pin_at I2)) List.mem_cons_self (thn (ha.run pos _ _ σ H _ I2 q) fun us s3 ⟨vs, H2, I3, rv, hlen, e2, q2⟩ => ⟨pin_at I3, ?_⟩) hst hpl
  exact mw_run T I3 e2 (pin_at I3) (by rw [← Paired.length rv, sizeLine_eq]; omega) fun s' J => ⟨.non, H2, ClX.unpin J, rfl, q2⟩

/-- an error's __init__ with the fields fs: what it promises -/
def spE (C : Addr) (fs : List Str) (pre : List V → Prop) : Sp := fun vs H Q _ => ∃ a us, vs = .ref a :: us ∧ us.length = fs.length ∧ pre us ∧ H a = some (exo a C none) ∧ ∀ d, H d = none → d ≠ a → Q .non (upd (upd H d (exd d (fs.zip us).reverse)) a (exo a C (some d)))
theorem fn_err1 {C : Addr} {x fl : Str} {q0 q1 q2 ps1 ps2 : Pos} {te : TE} {pre : List V → Prop} (U : SupD K P F f D cc fd) (S : NScope N ["self", x] [("__class__" : Str)] F.scope) (hmg : mg "super" = none) (T : OexC K C) (Z : SupEr K D C) (hno : PySem.W.findIn K (.ref C) fl = some none)
    (hs2 : F.scope.names.lookup ("super" : Str) = some .globalImplicit) (hx : x ≠ "self")
    (hb : F.body = [.Expr (.Call (.Attribute (.Call (.Name "super" p0) [] [] p1) "__init__" apos) [e] [] pos) ps1, .Assign [.Attribute (.Name "self" q0) fl q1] (.Name x q2) ps2])
    (he : ∀ (A : Around) (outer : List Env) (s0 : Shared) (H0 : Hp) (E0 : XK), PE (ncx CX P w K mg base N F f A outer s0 H0 E0) e te) (hte : ∀ (a : Addr) (us : List V) (H : Hp) (Q : VK), pre us → (∀ v, Q v H) → te (startF N (.ref a :: us) [none]) H Q)
    (hst : ∀ env, starEach [e] env = [(false, eval e env)]) (hd1 : (x == ("__debug__" : Str)) = false) (hd2 : (x == ("__classdict__" : Str)) = false)
    (ht : ∀ env : Env, ∃ pl : Sem Bool, eval (.Call (.Attribute (.Call (.Name "super" p0) [] [] p1) "__init__" apos) [e] [] pos) env = (do
      let ov ← attributeBase (.Call (.Name "super" p0) [] [] p1) "__init__" env (eval (.Call (.Name "super" p0) [] [] p1) env)
      standAt apos.atName
      let (g, first) ← holding [ov] (getMethod ov "__init__" pl)
      callWith pos g first (backTo pos (starEach [e] env)) []))
    (hsw : ∀ env, swapsWith (.Call (.Attribute (.Call (.Name "super" p0) [] [] p1) "__init__" apos) [e] [] pos) none ps1.line env = pure false) : FnOk P w K mg base CX (k + 1) f fd ["self", x] (spE C [fl] pre) := by
  have hN0 : N[0]? = some ("self" : Str) ∧ N[1]? = some x := by
    have z : N.take 3 = [("self" : Str), x, ("__class__" : Str)] := S.pre
    constructor
    · have y : (N.take 3)[0]? = some ("self" : Str) := by rw [z] <;> rfl
      rwa [List.getElem?_take_of_lt (by decide)] at y
    · have y : (N.take 3)[1]? = some x := by rw [z] <;> rfl
      rwa [List.getElem?_take_of_lt (by decide)] at y
  refine fnS_of U S (fun vs H Q E h => ?_) (fun A outer s H vs Q E hr h => ?_)
  · obtain ⟨a, us, rfl, hl, _⟩ := h
    rw [List.length_cons, hl]
    rfl
  · obtain ⟨a, us, rfl, hl, hp, ea, q⟩ := h
    have l1 : F.scope.names.lookup ("self" : Str) = some .local := S.par _ (by simp)
    have l2 : F.scope.names.lookup x = some .local := S.par _ (by simp)
    obtain ⟨pl, hev⟩ := ht (envF F f s.heap.objs.size)
    have h1 := eAt_supE (CX := CX) (w := w) (A := A) (outer := outer) (s0 := s) (H0 := H) (E0 := E) (body := F.body) U hmg S.kind hN0.1 l1 hs2 (S.frk _ (by simp)) (pa_cons (he A outer s H E) pa_nil (hst _)) (hst _) rfl hev
    have v0 : PE (ncx CX P w K mg base N F f A outer s H E) (.Name "self" q0) (tVar 0) := pe_var hN0.1 (.inl l1) (by decide) (by decide)
    have v1 : PE (ncx CX P w K mg base N F f A outer s H E) (.Name x q2) (tVar 1) := pe_var hN0.2 (.inl l2) hd1 hd2
    have h2 := ssAt_cons (sAt_expr (pos := ps1) h1 (hsw _)) (SsAt.of (body := F.body) (pss_cons (ps_ost (f := fl) (p' := q1) (pos := ps2) v0 v1 rfl) pss_nil))
    have h3 : ∀ (ss : List Stmt) (t : TS), ss = F.body → SsAt (ncx CX P w K mg base N F f A outer s H E) F.body ss t → SsAt (ncx CX P w K mg base N F f A outer s H E) F.body F.body t := fun ss t e z => by
      subst e
      exact z
    refine ⟨_, h3 _ _ hb.symm h2, ?_⟩
    obtain ⟨u, rfl⟩ : ∃ u, us = [u] := by
      cases us with
      | nil => cases hl
      | cons u r =>
        cases r with
        | nil => exact ⟨u, rfl⟩
        | cons _ _ => cases hl
    refine ⟨a, C, rfl, ea, T, Z, hte a [u] H _ hp fun v => ⟨by simp, ea, ?_⟩⟩
    exact ⟨u, rfl, .ref a, rfl, a, C, rfl, T, hno, .inl ⟨ea, fun d h1 h2 => q d h1 h2⟩⟩
end
end Ty

set_option Elab.async false
set_option linter.all false
set_option maxRecDepth 100000
set_option maxHeartbeats 1000000
set_option autoImplicit false
/-! Hk: the head's hook, with defs that close over their class -/
namespace Ty
open PySem PySem.Spec PyProof.Rows L2 NdefX ClX He

structure DefS where
  at_ : Defn
  name : Str
  qual : Str
  params : Arguments
  body : List Stmt
  scope : Scope
  cls : Str
abbrev FnSW : Type := Option (Str × Str × Arguments × FuncBody × Scope × Addr × List Str × Addr)
def fnSW (K : Fg) (p : Defn) : FnSW := match K.lookup (fAd K p) with
  | some ⟨_, _, .func fd, _⟩ => some (fd.name, fd.qualname, fd.params, fd.body, fd.scope, fd.globals, fd.closure.map Prod.fst, fd.builtins)
  | _ => none
def DefS.val (d : DefS) : FnSW := some (d.name, d.qual, d.params, .stmts d.body, d.scope, mainGlobals, ["__class__"], builtinsNs)
def ccOf (K : Fg) (p : Defn) : Addr := match K.lookup (fAd K p) with
  | some ⟨_, _, .func fd, _⟩ => (match fd.closure with
    | [(_, c)] => c
    | _ => 0)
  | _ => 0
def cellB (K : Fg) (c D : Addr) : Bool := match K.lookup c with
  | some ⟨_, _, .cell (some (.ref E)), _⟩ => decide (E = D)
  | _ => false
def fileB (K : Fg) (c : Addr) (file : Str) : Bool := match K.lookup c with
  | some ⟨_, _, .fields vs, _⟩ => (match (vs[2]? : Option Value) with
    | some (Value.str x _) => file == x
    | _ => false)
  | _ => false
def selfB : Option Arg → Bool
  | some ar => decide (ar.arg = ("self" : Str))
  | none => false
theorem selfB_ok {o : Option Arg} (h : selfB o = true) : ∃ ar, o = some ar ∧ ar.arg = ("self" : Str) := by
  cases o with
  | none => cases h
  | some ar => exact ⟨ar, rfl, of_decide_eq_true h⟩
def noneB : Value → Bool
  | .none => true
  | _ => false
def DefS.ok (file : Str) (K : Fg) (d : DefS) : Bool := PySem.W.keepIn K (.ref (fAd K d.at_)) && ((match K.lookup (fAd K d.at_) with
  | some ⟨_, _, .func fd, _⟩ => PySem.W.codeIn K fd.code d.qual && (noneB fd.defaults && noneB fd.kwdefaults)
  | _ => false) && (cellB K (ccOf K d.at_) (ga K d.cls) && (fileB K (codeOf K d.at_) file && ((PySem.W.clsIn K (ga K d.cls)).isSome && selfB (d.params.posonlyargs ++ d.params.args).head?))))
abbrev DefS.nf (K : Fg) (d : DefS) : NF := ⟨d.name, d.qual, d.params, d.body, d.scope, [(("__class__" : Str), ccOf K d.at_)], codeOf K d.at_⟩
theorem noneB_ok {v : Value} (h : noneB v = true) : v = .none := by
  cases v <;> first | rfl | cases h
theorem DefS.supD {P : Program} {K : Fg} {d : DefS} {file : Str} (e : fnSW K d.at_ = d.val) (c : d.ok file K = true) (hf : P.main.file = file) (hs : (P.main.scope.names.lookup ("super" : Str)).isSome = false) (ho : PySem.W.nsIn K cStatics "thirdparty.any" = some none) :
    ∃ fd, SupD K P (d.nf K) (fAd K d.at_) (ga K d.cls) (ccOf K d.at_) fd := by
  obtain ⟨c1, c⟩ := ba c
  obtain ⟨c2, c⟩ := ba c
  obtain ⟨c3, c⟩ := ba c
  obtain ⟨c4, c⟩ := ba c
  obtain ⟨c5, c6⟩ := ba c
  unfold fnSW at e
  cases q : K.lookup (fAd K d.at_) with
  | none =>
    rw [q] at c2
    cases c2
  | some o =>
    obtain ⟨oc, od, dt, osl⟩ := o
    rw [q] at c2 e
    cases dt with
    | func fd =>
      have c2 : (PySem.W.codeIn K fd.code d.qual && (noneB fd.defaults && noneB fd.kwdefaults)) = true := c2
      obtain ⟨k1, c2⟩ := ba c2
      obtain ⟨k2, k3⟩ := ba c2
      have e2 : (some (fd.name, fd.qualname, fd.params, fd.body, fd.scope, fd.globals, fd.closure.map Prod.fst, fd.builtins) : FnSW) = some (d.name, d.qual, d.params, FuncBody.stmts d.body, d.scope, mainGlobals, [("__class__" : Str)], builtinsNs) := e
      obtain ⟨cr, hcr⟩ := codeIn_ref k1
      have hco : codeOf K d.at_ = cr := codeOf_eq q hcr
      have hcc : ccOf K d.at_ = (match fd.closure with | [(_, c)] => c | _ => 0) := by
        unfold ccOf
        rw [q]
      obtain ⟨n1, n2, n3, n4, n5, n6, n7, n8, n9, n10, n11, n12, n13, n14, n15⟩ := fd
      simp only [Option.some.injEq, Prod.mk.injEq] at e2
      obtain ⟨h1, h2, h3, h4, h5, h6, h7, h8⟩ := e2
      dsimp only at k1 k2 k3 hcr hcc h1 h2 h3 h4 h5 h6 h7 h8
      have k2 := noneB_ok k2
      have k3 := noneB_ok k3
      subst h1 h2 h3 h4 h5 h6 h8 hcr k2 k3
      obtain ⟨cc, rfl⟩ : ∃ cc, n7 = [(("__class__" : Str), cc)] := by
        cases n7 with
        | nil => cases h7
        | cons x r =>
          obtain ⟨x1, x2⟩ := x
          cases r with
          | cons y r =>
            have h7 := congrArg List.length h7
            simp at h7
          | nil =>
            injection h7 with h7 _
            exact ⟨x2, by rw [← h7]⟩
      have hcc : ccOf K d.at_ = cc := hcc
      refine ⟨_, ⟨rfl, ⟨oc, od, n10, n11, n12, n14, osl, ?_, q⟩, c1, (by show PySem.W.codeIn K (.ref (codeOf K d.at_)) d.qual = true; rw [hco]; exact k1), ?_, ?_, ?_, Option.isSome_iff_exists.mp c5, hs, ho⟩⟩
      · show _ = PySem.W.fnX d.name d.qual d.params d.body d.scope [(("__class__" : Str), ccOf K d.at_)] .none .none _ _ _ (.ref (codeOf K d.at_)) _
        rw [hco, hcc]
      · exact selfB_ok c6
      · show ∃ ccl cdd vs ccs f2 tf, K.lookup (codeOf K d.at_) = some ⟨ccl, cdd, .fields vs, ccs⟩ ∧ vs[2]? = some (.str f2 tf) ∧ ((P.main.file : Str) == f2) = true
        unfold fileB at c4
        cases q2 : K.lookup (codeOf K d.at_) with
        | none =>
          rw [q2] at c4
          cases c4
        | some o2 =>
          obtain ⟨a1, a2, dt2, a4⟩ := o2
          rw [q2] at c4
          cases dt2 with
          | fields vs =>
            have c4 : (match (vs[2]? : Option Value) with | some (Value.str x _) => file == x | _ => false) = true := c4
            cases q3 : (vs[2]? : Option Value) with
            | none =>
              rw [q3] at c4
              cases c4
            | some v =>
              rw [q3] at c4
              cases v with
              | str x t =>
                have c4 : (file == x) = true := c4
                exact ⟨a1, a2, vs, a4, x, t, rfl, q3, by rw [hf]; exact c4⟩
              | _ => cases c4
          | _ => cases c4
      · unfold cellB at c3
        cases q2 : K.lookup (ccOf K d.at_) with
        | none =>
          rw [q2] at c3
          cases c3
        | some o2 =>
          obtain ⟨a1, a2, dt2, a4⟩ := o2
          rw [q2] at c3
          cases dt2 with
          | cell v =>
            cases v with
            | none => cases c3
            | some v =>
              cases v with
              | ref E =>
                have c3 : decide (E = ga K d.cls) = true := c3
                exact ⟨a1, a2, a4, by rw [of_decide_eq_true c3]⟩
              | _ => cases c3
          | _ => cases c3
    | _ => cases c2

/-! ### the hook -/
structure SaysS (fa : List Fa) (fn : List DefD) (fs : List DefS) (file : Str) (ex : Fg → Bool) (K : Fg) : Prop where
  d : SaysD fa fn K
  e : ex K = true
  s : fs.map (fun d => fnSW K d.at_) = fs.map DefS.val
  o : fs.all (DefS.ok file K) = true
theorem SaysS.def_ {P : Program} {fa : List Fa} {fn : List DefD} {fs : List DefS} {file : Str} {ex : Fg → Bool} {K : Fg} (c : SaysS fa fn fs file ex K) (hf : P.main.file = file) (hs : (P.main.scope.names.lookup ("super" : Str)).isSome = false) (ho : PySem.W.nsIn K cStatics "thirdparty.any" = some none) (i : Nat) {d : DefS}
    (h : fs[i]? = some d := by rfl) : ∃ fd, SupD K P (d.nf K) (fAd K d.at_) (ga K d.cls) (ccOf K d.at_) fd := by
  have e : (fs.map fun d => fnSW K d.at_)[i]? = (fs.map DefS.val)[i]? := by rw [c.s]
  rw [List.getElem?_map, List.getElem?_map, h] at e
  exact DefS.supD (Option.some.inj e) (List.all_eq_true.mp c.o d (List.mem_of_getElem? h)) hf hs ho
abbrev AlS : Type := AlD × Bool × List FnSW
def obK (fa : List Fa) (fn : List DefD) (fs : List DefS) (file : Str) (ex : Fg → Bool) (K : Fg) : AlS := (obsD fa fn K, ex K && fs.all (DefS.ok file K), fs.map fun d => fnSW K d.at_)
def obsS (n : Nat) (fa : List Fa) (fn : List DefD) (fs : List DefS) (file : Str) (ex : Fg → Bool) (g : Addr → Option Obj) : AlS := obK fa fn fs file ex (frT g (asD g n ++ [cStatics]))
def hookS (n : Nat) (fa : List Fa) (fn : List DefD) (fs : List DefS) (file : Str) (ex : Fg → Bool) : PySem.W.Hook where
  α := AlS
  obs := fun s => obsS n fa fn fs file ex s.heap.get?
  val := fun _ => (valD fn, true, fs.map DefS.val)
  says := fun _ h => ∃ K : Fg, K.In h ∧ SaysS fa fn fs file ex K
  of := fun _ _ e => by
    have e1 := congrArg (fun z : AlS => z.1) e
    have e2 := congrArg (fun z : AlS => z.2.1) e
    have e3 := congrArg (fun z : AlS => z.2.2) e
    obtain ⟨h1, h2⟩ := ba e2
    exact ⟨_, frT_in, ⟨e1, h1, e3, h2⟩⟩
  keeps := fun _ _ _ ⟨K, hK, c⟩ k => ⟨K, PySem.W.Frag.In.keeps hK k, c⟩
theorem obsS_eq {n : Nat} {fa : List Fa} {fn : List DefD} {fs : List DefS} {file : Str} {ex : Fg → Bool} {g : Addr → Option Obj} {s : Shared} (h : ∀ a, g a = s.heap.get? a) : obsS n fa fn fs file ex g = (hookS n fa fn fs file ex).obs s := by
  have e : g = s.heap.get? := funext h
  subst e
  rfl
end Ty

set_option Elab.async false
set_option linter.all false
set_option maxRecDepth 100000
set_option maxHeartbeats 1000000
set_option autoImplicit false
/-! HkX: facts of classes by Bools -/
namespace Ty
open PySem PySem.Spec PyProof.Rows L2 NdefX ClX He

def slB : List (Option Value) → Bool
  | [_, _, _, _, some (.builtin n), _] => decide (n = "ValueError.__new__")
  | _ => false
theorem slB_ok {l : List (Option Value)} (h : slB l = true) : ∃ k0 k1 k2 k3 k5, l = [k0, k1, k2, k3, some (.builtin "ValueError.__new__"), k5] := by
  match l, h with
  | [k0, k1, k2, k3, some (.builtin n), k5], h => exact ⟨k0, k1, k2, k3, k5, by rw [of_decide_eq_true (show decide (n = "ValueError.__new__") = true from h)]⟩
def mroB (C : Addr) : List Value → Bool
  | .ref D :: bm => decide (D = C) && PySem.HandSPX.refsVE bm
  | _ => false
theorem mroB_ok {C : Addr} {l : List Value} (h : mroB C l = true) : ∃ bm, l = .ref C :: bm ∧ PySem.HandSPX.refsVE bm = true := by
  match l, h with
  | .ref D :: bm, h =>
    obtain ⟨h1, h2⟩ := ba (show (decide (D = C) && PySem.HandSPX.refsVE bm) = true from h)
    exact ⟨bm, by rw [of_decide_eq_true h1], h2⟩
def oexB (K : Fg) (C : Addr) : Bool := (match K.lookup C with
  | some ⟨.type t, _, .cls cd, sl⟩ => decide (t = "type") && (mroB C cd.mro && (cd.hasDict && (!cd.hasDel && slB sl.toList)))
  | _ => false) && (decide (PySem.W.findIn K (.ref C) "__setattr__" = some (some (.builtin "object.__setattr__"))) && (decide (PySem.W.subIn K (.ref C) (.type "BaseException") = some true) && (decide (PySem.W.typeIn K (.ref C) = some (.type "type")) && PySem.W.keepIn K (.ref C))))
theorem oexB_ok {K : Fg} {C : Addr} (h : oexB K C = true) : OexC K C := by
  obtain ⟨h1, h⟩ := ba h
  obtain ⟨h2, h⟩ := ba h
  obtain ⟨h3, h⟩ := ba h
  obtain ⟨h4, h5⟩ := ba h
  refine ⟨?_, of_decide_eq_true h2, of_decide_eq_true h3, of_decide_eq_true h4, h5⟩
  cases q : K.lookup C with
  | none =>
    rw [q] at h1
    cases h1
  | some o =>
    obtain ⟨oc, od, dt, sl⟩ := o
    rw [q] at h1
    cases oc with
    | type t =>
      cases dt with
      | cls cd =>
        have h1 : (decide (t = "type") && (mroB C cd.mro && (cd.hasDict && (!cd.hasDel && slB sl.toList)))) = true := h1
        obtain ⟨a1, h1⟩ := ba h1
        obtain ⟨a2, h1⟩ := ba h1
        obtain ⟨a3, h1⟩ := ba h1
        obtain ⟨a4, a5⟩ := ba h1
        obtain ⟨nm, bs, mro, ns, qn, hd, sn, sb, ab, col, del⟩ := cd
        dsimp only at a2 a3 a4
        obtain ⟨bm, e1, e2⟩ := mroB_ok a2
        obtain ⟨k0, k1, k2, k3, k5, e3⟩ := slB_ok a5
        obtain ⟨l⟩ := sl
        simp only at e3
        have a4 : del = false := by
          cases del with
          | false => rfl
          | true => cases a4
        subst e1 e3 a3 a4
        rw [of_decide_eq_true a1]
        exact ⟨nm, qn, ns, bs, bm, sn, sb, ab, col, od, k0, k1, k2, k3, k5, rfl, e2⟩
      | _ => cases h1
    | _ => cases dt <;> cases h1
def supErB (K : Fg) (C : Addr) : Bool := decide (PySem.W.mroIn K C (.ref C) = some true) && (decide (PySem.W.ks_superIn K C C "__init__" = some (some (.builtin "ValueError.__init__"))) && decide (PySem.W.subIn K (.ref C) (.type "ValueError") = some true))
theorem supErB_ok {K : Fg} {C : Addr} (h : supErB K C = true) : SupEr K C C := by
  obtain ⟨h1, h⟩ := ba h
  obtain ⟨h2, h3⟩ := ba h
  exact ⟨of_decide_eq_true h1, of_decide_eq_true h2, of_decide_eq_true h3⟩
def supToB (K : Fg) (D C : Addr) (m : Str) (f2 : Addr) : Bool := decide (PySem.W.mroIn K C (.ref D) = some true) && decide (PySem.W.ks_superIn K C D m = some (some (.ref f2)))
theorem supToB_ok {K : Fg} {D C : Addr} {m : Str} {f2 : Addr} (h : supToB K D C m f2 = true) : SupTo K D C m f2 := by
  obtain ⟨h1, h2⟩ := ba h
  exact ⟨of_decide_eq_true h1, of_decide_eq_true h2⟩
structure FnA (K : Fg) (f : Addr) : Prop where
  ty : PySem.W.typeIn K (.ref f) = some (.type "function")
  fn : PySem.W.fnIn K f = true
def fnB (K : Fg) (f : Addr) : Bool := decide (PySem.W.typeIn K (.ref f) = some (.type "function")) && PySem.W.fnIn K f
theorem fnB_ok {K : Fg} {f : Addr} (h : fnB K f = true) : FnA K f := by
  obtain ⟨h1, h2⟩ := ba h
  exact ⟨of_decide_eq_true h1, h2⟩
/-- an error's class: its instances are asked, made -/
structure ErrC (K : Fg) (C fI : Addr) : Prop where
  x : L2.XfC K C
  i : L2.ExcC K C
  cl : (PySem.W.clsIn K C).isSome = true
  init : PySem.W.findIn K (.ref C) "__init__" = some (some (.ref fI))
  ty : PySem.W.typeIn K (.ref fI) = some (.type "function")
  o : OexC K C
  s : SupEr K C C
def errB (K : Fg) (C fI : Addr) : Bool := xfB K C && (decide (PySem.W.findIn K (.ref C) "__class__" = some (some (.builtin "object.__class__"))) && (decide (PySem.W.specialIn K (.builtin "object.__class__") "__get__" = some (some (.builtin "getset_descriptor.__get__"))) && (decide (PySem.W.takesIn K (.builtin "object.__class__") = some true) &&
  (decide (PySem.W.mroIn K C (.type "object") = some true) && ((PySem.W.clsIn K C).isSome && (decide (PySem.W.findIn K (.ref C) "__init__" = some (some (.ref fI))) && (decide (PySem.W.typeIn K (.ref fI) = some (.type "function")) && (oexB K C && supErB K C))))))))
theorem errB_ok {K : Fg} {C fI : Addr} (h : errB K C fI = true) : ErrC K C fI := by
  obtain ⟨h1, h⟩ := ba h
  obtain ⟨h2, h⟩ := ba h
  obtain ⟨h3, h⟩ := ba h
  obtain ⟨h4, h⟩ := ba h
  obtain ⟨h5, h⟩ := ba h
  obtain ⟨h6, h⟩ := ba h
  obtain ⟨h7, h⟩ := ba h
  obtain ⟨h8, h⟩ := ba h
  obtain ⟨h9, h10⟩ := ba h
  have x := xfB_ok h1
  exact ⟨x, ⟨x.ga, x.gg, x.exC, x.hdC, of_decide_eq_true h2, of_decide_eq_true h3, of_decide_eq_true h4, of_decide_eq_true h5⟩, h6, of_decide_eq_true h7, of_decide_eq_true h8, oexB_ok h9, supErB_ok h10⟩
end Ty

set_option Elab.async false
set_option linter.all false
set_option maxRecDepth 100000
set_option maxHeartbeats 1000000
set_option autoImplicit false
/-! Ty, part T: try: .. except E as n: .. (the first clause takes what the body may raise), raise of an own error -/
namespace Ty
open PySem PySem.Spec PyProof.Rows L2 NdefX ClX

/-! ### an exception that is caught by the first clause -/
/-- what the first clause wishes: the exception is of its class -/
def wFst (K : Fg) (c : Value) (i : Nat) (ts : Addr → Value → Option Addr → TS) (D : Ends) : WX := fun cls d σ H => PySem.W.exmOne K cls c = some true ∧
  ∀ a, H a = none → ts a cls d { nx := fun σ' H' => D.nx (σ'.set i none) H', rt := D.rt, bk := fun σ' H' => D.bk (σ'.set i none) H', ct := fun σ' H' => D.ct (σ'.set i none) H' } (σ.set i (some (.ref a))) H
section
variable {X : Cx} {x n : Str} {c : Value} {i : Nat} {body suite : List Stmt} {b₀ : Stmt} {hds : List ExceptHandler} {np pos pos' : Pos} {tb : WX → TS} {ts : Addr → Value → Option Addr → TS}
/-- the clause's suite runs, then its name goes -/
theorem fst_suite {D : Ends} {pins : List (Addr × Obj)} {σ : L2.St} {H : Hp} {s : Shared} {B : Heap} {a : Addr} {cls : Value} {d : Option Addr} (ok : X.Ok) (hN : X.N.Nodup) (hi : X.N[i]? = some n) (hln : X.env.kindOf n = some .local) (hc : Names X x c)
    (J : ∀ h', HandSPX.FlyingZ B (X.env :: X.outer) a (Zc cls d) h' → s.heap.UpToSlots h' → Inv X pins σ H { s with heap := h' }) (fl : HandSPX.FlyingZ B (X.env :: X.outer) a (Zc cls d) s.heap) (hf : X.env.frame = some X.env.locals) (na : H a = none)
    (hsu : ∀ (a : Addr) (oe : Obj) (cls : Value) (d : Option Addr) (pn : List (Addr × Obj)), Zc cls d oe → (∃ vs, oe.data = .fields vs) → PSs (X.suite a ((a, oe) :: pn)) (b₀ :: suite) (ts a cls d)) (w : wFst X.K c i ts D cls d σ H) :
    wpAny (model X.prog X.w) X.A (handleBy (.ref a) X.env (.ExceptHandler (some (.Name x np)) (some n) (b₀ :: suite) pos' :: hds)) (SP X pins D) X.xe s := by
  obtain ⟨hyes, run⟩ := w
  have out : ∀ {h : Heap}, HandSPX.FlyingZ B (X.env :: X.outer) a (Zc cls d) h → ∃ oe vs, h.get? a = some oe ∧ Zc cls d oe ∧ oe.data = .fields vs ∧ a ≠ X.env.locals ∧ a ∉ X.fs := fun {h} y => by
    obtain ⟨oe, vs, e1, e2, e3⟩ := y.there
    have nf : a ∉ frs (X.env :: X.outer) := fun m => by
      obtain ⟨_, o2, e4, no⟩ := y.2.2.1.mem m
      rw [e1] at e4
      exact no _ ((congrArg Obj.data (Option.some.inj e4)).symm.trans e3)
    have two := List.mem_filterMap (f := Env.frame) (b := a) (l := X.env :: X.outer)
    refine ⟨oe, vs, e1, e2, e3, fun z => nf (two.mpr ⟨X.env, List.mem_cons_self, by rw [hf, z]⟩), fun m => ?_⟩
    obtain ⟨v, hv, q⟩ := List.mem_filterMap.mp m
    exact nf (two.mpr ⟨v, List.mem_cons_of_mem _ hv, q⟩)
  obtain ⟨oe, vs, e1, e2, e3, nl, nf⟩ := out fl
  have S := (J _ fl (Heap.UpToSlots.refl _)).suite e1 e3 na nl nf
  have kIn := S.kIn
  refine wpAny_handleBy_cons (codeAny_handlers_test ?_) fun q => nomatch q
  have LT : PySem.W.Looks (model X.prog X.w) s.heap (typeOf (.ref a)) cls := fun _ _ _ s k q => wpAny_typeOf_ref (k _ _ e1) (e2.1 ▸ q)
  have LM := PySem.W.exm_one kIn LT hyes
  have named : ∀ {Q Er : Value → Shared → Prop}, Q c s → wpAny (model X.prog X.w) (X.A.mark (some (.ref a))) (eval (.Name x np) X.env) Q Er s := fun {Q Er} q => by
    obtain ⟨g1, g2, g3⟩ := hc
    rcases g3 with g3 | ⟨g3, g4, g5⟩
    · exact ld_glob (X := X.suite a ((a, oe) :: (X.pn ++ pins))) S g1 g3 q g2
    · exact ld_blt (X := X.suite a ((a, oe) :: (X.pn ++ pins))) S g1 g3 g4 q g5 g2
  refine named (LM.here (codeAny_handlers_suite_as (HandSPX.lands_againZ fl fun h4 fl4 up4 => ?_)))
  obtain ⟨o4, v4, f1, f2, f3, nl4, nf4⟩ := out fl4
  have I4 := J h4 fl4 up4
  have gone : ∀ {σ6 : L2.St} {H6 : Hp} {Q : Shared → Prop} {s6 : Shared}, Inv (X.suite a ((a, o4) :: (X.pn ++ pins))) [] σ6 H6 s6 → (∀ s7, Inv X pins (σ6.set i none) H6 s7 → Q s7) → wpAny (model X.prog X.w) X.A (do bindName X.env n .none; unbindBehindTheSuite X.env n pos') (fun _ s7 => Q s7) X.xe s6 :=
    fun S6 hq => gone_ok (S6.unsuite ok) hN hi hln hq
  refine store_ok (X := X.suite a ((a, o4) :: (X.pn ++ pins))) (v := .ref a) (I4.suite f1 f3 na nl4 nf4) hN hi (.inl hln) rfl (fun s5 S5 => ?_) (.inr hln)
  refine wpAny_mono ((hsu a o4 cls d (X.pn ++ pins) f2 ⟨_, f3⟩).run [] s5 _ H _ S5 (run a na)) (fun f s6 hsp => ?_) fun _ _ z => z.elim
  cases f with
  | ret u =>
    obtain ⟨v, σ6, H6, S6, r6, q6⟩ := hsp
    exact gone S6 fun s7 J7 => ⟨v, _, H6, J7, r6, q6⟩
  | next =>
    obtain ⟨σ6, H6, S6, q6⟩ := hsp
    exact gone S6 fun s7 J7 => ⟨_, H6, J7, q6⟩
  | brk =>
    obtain ⟨σ6, H6, S6, q6⟩ := hsp
    exact gone S6 fun s7 J7 => ⟨_, H6, J7, q6⟩
  | cont =>
    obtain ⟨σ6, H6, S6, q6⟩ := hsp
    exact gone S6 fun s7 J7 => ⟨_, H6, J7, q6⟩
theorem ps_try_fst (hs : X.stack = X.env :: X.outer) (hf : X.env.frame = some X.env.locals) (hN : X.N.Nodup) (hi : X.N[i]? = some n) (hln : X.env.kindOf n = some .local) (hc : Names X x c)
    (hb : ∀ (W : WX) (pn : List (Addr × Obj)) (xe : Value → Shared → Prop), Takes (X.tr pn xe) W → PassesOwn (model X.prog X.w) X.A X.env xe → PSs (X.tr pn xe) body (tb W))
    (hsu : ∀ (a : Addr) (oe : Obj) (cls : Value) (d : Option Addr) (pn : List (Addr × Obj)), Zc cls d oe → (∃ vs, oe.data = .fields vs) → PSs (X.suite a ((a, oe) :: pn)) (b₀ :: suite) (ts a cls d)) :
    PS X (.Try body (.ExceptHandler (some (.Name x np)) (some n) (b₀ :: suite) pos' :: hds) [] [] pos) (fun D σ H => tb (wFst X.K c i ts D) D σ H) := by
  refine ⟨fun pins s σ H D I h => wpAny_Try_except ?_⟩
  have ok := I.ok
  have hfr : X.A.frames = some (X.env :: X.outer) := ok.frames.trans (congrArg some hs)
  refine wpAny_mono ((hb (wFst X.K c i ts D) (X.pn ++ pins) _ (fun u s' xx => ?_) PassesOwn.looking).run [] s σ H D (I.toTry _) h) (fun f s1 q => ?_) fun e s1 y => y
  · obtain ⟨a, B, sI, pins', σ', H', cls, d, rfl, J', nb, up, sky, na, os, ag, w⟩ := xx
    have JI : Inv X pins σ' H' sI := J'.ofTry ok
    have sky2 : Sky B (X.env :: X.outer) a (Zc cls d) X.env.locals s'.heap := hs ▸ sky
    show wpAny (model X.prog X.w) X.A (noteFrame (.ref a) X.env) _ _ _
    refine Sky.land Zc.steady hfr hf sky2 fun h3 fl3 up3 => ?_
    exact fst_suite (s := { s' with heap := h3 }) ok hN hi hln hc (fun h4 fl4 up4 => JI.landed (s' := { s' with heap := h4 }) nb fl4.1 ((up.trans up3).trans up4) os ag) fl3 hf na hsu w
  · cases f with
    | ret u =>
      obtain ⟨v, σ', H', J', r, q⟩ := q
      exact ⟨v, σ', H', J'.ofTry ok, r, q⟩
    | next =>
      obtain ⟨σ', H', J', q⟩ := q
      exact wpAny_execs_nil ⟨σ', H', J'.ofTry ok, q⟩
    | brk =>
      obtain ⟨σ', H', J', q⟩ := q
      exact ⟨σ', H', J'.ofTry ok, q⟩
    | cont =>
      obtain ⟨σ', H', J', q⟩ := q
      exact ⟨σ', H', J'.ofTry ok, q⟩
end
end Ty

set_option Elab.async false
set_option linter.all false
set_option maxRecDepth 100000
set_option maxHeartbeats 1000000
set_option autoImplicit false
/-! Ty, part U: the rules for try, raise, a caught error, defs called in an except suite -/
namespace Ty
open PySem PySem.Spec PyProof.Rows L2 NdefX ClX L2H

mutual
theorem dp_up {K : Fg} {G G' : Hp} (x : Ex G G') : ∀ {v : V} {d : PyData}, Dp K G v d → Dp K G' v d
  | _, _, .non => .non
  | _, _, .bl b => .bl b
  | _, _, .int i => .int i
  | _, _, .str z => .str z
  | _, _, .lst h t => .lst (x.sl h) (dp_upA x t)
  | _, _, .tup h t => .tup (x.st h) (dp_upA x t)
theorem dp_upA {K : Fg} {G G' : Hp} (x : Ex G G') : ∀ {vs : List V} {ds : List PyData}, DpAll K G vs ds → DpAll K G' vs ds
  | _, _, .nil => .nil
  | _, _, .cons h t => .cons (dp_up x h) (dp_upA x t)
end
theorem XRep.mono {K : Fg} {G G' H H' : Hp} {cls : Value} {d : Option Addr} {e : Exn} (x : Ex G G') (h : XRep K G H cls d e) : XRep K G' H' cls d e := by
  obtain ⟨h1, a, fs, h2, h3, h4⟩ := h
  exact ⟨h1, a, fs, h2, x _ _ h3, fun f v q => let ⟨u, q1, q2⟩ := h4 f v q; ⟨u, q1, dp_up x q2⟩⟩
/-- the caught error at a: its class, its dict -/
abbrev rpEx (a : Addr) (cls : Value) (d : Option Addr) : Rp Exn := ⟨fun K G v e => v = .ref a ∧ XRep K G G cls d e, fun x h => ⟨h.1, h.2.mono x⟩⟩
/-- a block whose exceptions leave with the slots of its entry -/
structure JX (X : Cx) (c : Cn) (ss : List Stmt) (ρ : List Sl) {S L β : Type} (out : S → List Sl) (lp : L → List Sl) (i : Rp β) (t : TS) (Φ : Pt (Out S L β)) : Prop where
  pe : PSs X ss t
  sem : ∀ post ep, Φ post ep → ∀ G H σ, Gr c.rs c.G0 c.H0 G H → En X.K c.rs c.H0 G H σ ρ → ∀ D : Ends, EndsOk X c G i out lp post D → XOk X c G H σ ep → t D σ H
theorem JX.conv {X : Cx} {c : Cn} {ss : List Stmt} {ρ : List Sl} {S L β : Type} {out : S → List Sl} {lp : L → List Sl} {i : Rp β} {t t' : TS} {Φ Φ' : Pt (Out S L β)} (h : JX X c ss ρ out lp i t Φ) (ht : t = t') (hf : Φ = Φ') : JX X c ss ρ out lp i t' Φ' := ht ▸ hf ▸ h
section
variable {X : Cx} {c : Cn} {ρ : List Sl} {S L β α : Type} {out : S → List Sl} {lp : L → List Sl} {i : Rp β} {iα : Rp α} {pos : Pos} {rest : List Stmt} {tr : TS} {e : Expr} {te : TE} {Φe : Pt α}
theorem jx_nil (s : S) (h : EnLe ρ (out s)) : JX X c [] ρ out lp i tNext (fun post _ => post (.nx s)) :=
  ⟨pss_nil, fun post ep φ G H σ g E D k hx => k.nx G H σ s g (Ex.refl _) (E.le h) φ⟩
theorem jx_expr {Φr : Pt (Out S L β)} (he : JE X c e ρ iα te Φe) (hr : JX X c rest ρ out lp i tr Φr) (hs : swapsWith e none pos.line X.env = pure false := by rfl) : JX X c (.Expr e pos :: rest) ρ out lp i (tSeq (tDrop te) tr) (fun post ep => Φe (fun _ => Φr post ep) ep) :=
  ⟨pss_cons (ps_expr he.pe hs) hr.pe, fun post ep φ G H σ g E D k hx => he.sem _ _ φ G H σ g.w E _ (fun G1 H1 v m g1 r p => hr.sem _ _ p G1 H1 σ (g.trans g1) (E.up g1) D (k.up g1.g) (hx.up g1)) hx⟩
theorem jx_ret {Φe : Pt β} (he : JE X c e ρ i te Φe) : JX X c (.Return (some e) pos :: rest) ρ out lp i (tSeq (tRet te) tNever) (fun post ep => Φe (fun m => post (.rt m)) ep) :=
  ⟨pss_cons (ps_ret he.pe) pss_never, fun post ep φ G H σ g E D k hx => he.sem _ _ φ G H σ g.w E _ (fun G1 H1 v m g1 r p => k.rt G1 H1 v m (g.trans g1) g1.g r p) hx⟩
/-- an assignment that is the last statement -/
theorem jx_set {s : α → S} (j : Nat) {x : Str} {px : Pos} (hN : X.N.Nodup) (he : JE X c e ρ iα te Φe) (hle : ∀ m, EnLe (ρ.set j (.val iα m)) (out (s m))) (hj : X.N[j]? = some x := by rfl) (hx : Loc X.env.scope x := by first | exact Or.inl rfl | exact Or.inr rfl)
    (hs : swapsWith e (some (.Name x px)) pos.line X.env = pure false := by rfl) (hf : X.fn x = true ∨ X.env.scope.names.lookup x = some .local := by first | exact .inl rfl | exact .inr rfl) :
    JX X c [.Assign [.Name x px] e pos] ρ out lp i (tSeq (tAsg te (gName j)) tNext) (fun post ep => Φe (fun m => post (.nx (s m))) ep) :=
  ⟨pss_cons (ps_set hN hj hx he.pe hs hf) pss_nil, fun post ep φ G H σ g E D k hx => he.sem _ _ φ G H σ g.w E _ (fun G1 H1 v m g1 r p => k.nx G1 H1 _ (s m) (g.trans g1) g1.g (((E.up g1).set (x := .val iα m) ⟨v, rfl, r⟩ rfl).le (hle m)) p) hx⟩
theorem jx_if {t : Expr} {b1 b2 : List Stmt} {tt : TT} {t1 t2 : TS} {Φt : Pt Bool} {Φ1 Φ2 : Pt (Out S L β)} (ht : JT X c t ρ tt Φt) (h1 : JX X c b1 ρ out lp i t1 Φ1) (h2 : JX X c b2 ρ out lp i t2 Φ2) :
    JX X c [.If t b1 b2 pos] ρ out lp i (tIfS tt t1 t2) (fun post ep => Φt (fun k => if k = true then Φ1 post ep else Φ2 post ep) ep) := by
  refine ⟨pss_one (ps_if ht.pe h1.pe h2.pe), fun post ep φ G H σ g E D k hx => ?_⟩
  refine ht.sem _ _ φ G H σ g.w E _ (fun G1 H1 m g1 p => ?_) hx
  cases m with
  | true => exact h1.sem _ _ p G1 H1 σ (g.trans g1) (E.up g1) _ (k.up g1.g) (hx.up g1)
  | false => exact h2.sem _ _ p G1 H1 σ (g.trans g1) (E.up g1) _ (k.up g1.g) (hx.up g1)
end

/-! ### try -/
/-- a wish that takes any exception -/
def xeT (X : Cx) : Value → Shared → Prop := fun e s₁ => wpAny (model X.prog X.w) X.A (noteFrame e X.env) (fun _ s₂ => wpAny (model X.prog X.w) X.A (setFlight e none) (fun _ _ => True) X.xe s₂) X.xe s₁
theorem takes_any {X : Cx} {W : WX} (hs : X.stack = X.env :: X.outer) (hf : X.env.frame = some X.env.locals) : Takes (X.tr [] (xeT X)) W := fun u s' xx => by
  obtain ⟨a, B, sI, pins', σ', H', cls, d, rfl, J, nb, up, sky, na, os, ag, w⟩ := xx
  have sky2 : Sky B (X.env :: X.outer) a (Zc cls d) X.env.locals s'.heap := hs ▸ sky
  exact Sky.land Zc.steady (J.ok.frames.trans (congrArg some hs)) hf sky2 fun h3 fl3 up3 => trivial
theorem passes_xeT {X : Cx} : PassesOwn (model X.prog X.w) X.A X.env (xeT X) := PassesOwn.looking
theorem En.unset1 {K : Fg} {rs : Rs} {H0 G H : Hp} {σ : L2.St} {ρ : List Sl} {j : Nat} (E : En K rs H0 G H σ ρ) (h : ρ[j]? = some .no) : En K rs H0 G H (σ.set j none) ρ := by
  have e : ρ.set j .no = ρ := List.ext_getElem? fun i => by
    by_cases z : j = i
    · subst z
      rw [List.getElem?_set_self (List.getElem?_eq_some_iff.mp h).1, h]
    · exact List.getElem?_set_ne z
  have E2 := E.unset (j := j)
  rwa [e] at E2
abbrev Cn.as (c : Cn) (W : WX) : Cn := ⟨c.rs, c.G0, c.H0, W⟩
section
variable {X : Cx} {c : Cn} {ρ : List Sl} {M S L β : Type} {mid : M → List Sl} {out : S → List Sl} {lp : L → List Sl} {i : Rp β} {rest body suite : List Stmt} {b₀ : Stmt} {hds : List ExceptHandler} {tr : TS} {tb : WX → TS} {ts : Addr → Value → Option Addr → TS} {x n : Str} {np pos pos' : Pos} {C : Addr}
theorem b_try [Nonempty M] {Φb : Pt (Out M L β)} {Φs : Exn → Pt (Out M L β)} {Φr : M → Pt (Out S L β)} (j : Nat) (hs : X.stack = X.env :: X.outer) (hf : X.env.frame = some X.env.locals) (hN : X.N.Nodup) (hi : X.N[j]? = some n) (hln : X.env.kindOf n = some .local) (hm : X.mg x = some (.ref C)) (hC : C = He.ga X.K x) (hg : Gl X x) (hdb : (x == ("__debug__" : Str)) = false)
    (hexm : PySem.W.exmOne X.K (.ref C) (.ref C) = some true) (hno : ∀ s, (mid s)[j]? = some .no) (hnl : ∀ l, (lp l)[j]? = some .no) (hρ : ρ[j]? = some .no)
    (hb : ∀ (W : WX) (pn : List (Addr × Obj)) (xe : Value → Shared → Prop), Takes (X.tr pn xe) W → PassesOwn (model X.prog X.w) X.A X.env xe → JX (X.tr pn xe) (c.as W) body ρ mid lp i (tb W) Φb)
    (hsu : ∀ (a : Addr) (oe : Obj) (cls : Value) (d : Option Addr) (pn : List (Addr × Obj)) (e : Exn), Zc cls d oe → (∃ vs, oe.data = .fields vs) → JB (X.suite a ((a, oe) :: pn)) (c.as fun _ _ _ _ => False) (b₀ :: suite) (ρ.set j (.val (rpEx a cls d) e)) mid lp i (ts a cls d) (Φs e))
    (hr : ∀ s, JB X c rest (mid s) out lp i tr (Φr s)) :
    JB X c (.Try body (.ExceptHandler (some (.Name x np)) (some n) (b₀ :: suite) pos' :: hds) [] [] pos :: rest) ρ out lp i (tSeq (fun D σ H => tb (wFst X.K (.ref C) j ts D) D σ H) tr)
      (fun post ep => Φb (seqP Φr post ep) (fun e => e.cls = x ∧ Φs e (seqP Φr post ep) (fun _ => False))) := by
  refine ⟨pss_cons (ps_try_fst hs hf hN hi hln ⟨hg, hdb, .inl hm⟩ (fun W pn xe tk pa => (hb W pn xe tk pa).pe) fun a oe cls d pn z f => (hsu a oe cls d pn ⟨Str.empty, []⟩ z f).pe) (hr (Classical.choice inferInstance)).pe, fun post ep φ G H σ g E D k hx => ?_⟩
  have ends : ∀ {G1 : Hp}, Ex G G1 → EndsOk X c G1 i mid lp (seqP Φr post ep) { D with nx := tr D } := fun x1 =>
    ⟨fun G' H' σ' s g' x' E' p' => (hr s).sem _ _ p' G' H' σ' g' E' D (k.up (x1.trans x')) hx, fun G' H' v b g' x' r p' => k.rt G' H' v b g' (x1.trans x') r p', fun G' H' σ' l g' x' E' p' => k.bk G' H' σ' l g' (x1.trans x') E' p', fun G' H' σ' l g' x' E' p' => k.ct G' H' σ' l g' (x1.trans x') E' p'⟩
  refine (hb (wFst X.K (.ref C) j ts { D with nx := tr D }) [] (xeT X) (takes_any hs hf) passes_xeT).sem _ _ φ G H σ g E { D with nx := tr D } ⟨(ends (Ex.refl _)).nx, (ends (Ex.refl _)).rt, (ends (Ex.refl _)).bk, (ends (Ex.refl _)).ct⟩ fun G' H' cls d e g1 r p => ?_
  obtain ⟨p1, p2⟩ := p
  have ec : cls = .ref C := by rw [r.1, p1, hC]
  refine ⟨by rw [ec]; exact hexm, fun a na => ?_⟩
  have x1 := g1.g
  refine (hsu a ⟨cls, d, .fields #[], #[]⟩ cls d [] e ⟨rfl, rfl⟩ ⟨_, rfl⟩).sem _ _ p2 G' H' _ (g.trans g1) ((E.up g1).set (x := .val (rpEx a cls d) e) ⟨.ref a, rfl, rfl, r.mono (Ex.refl _)⟩ rfl) _ ?_ fun _ _ _ _ _ _ _ _ z => z.elim
  have en := ends x1
  exact ⟨fun G4 H4 σ4 s4 g4 x4 E4 p4 => en.nx G4 H4 _ s4 g4 x4 (E4.unset1 (hno s4)) p4, fun G4 H4 v b g4 x4 r4 p4 => en.rt G4 H4 v b g4 x4 r4 p4, fun G4 H4 σ4 l g4 x4 E4 p4 => en.bk G4 H4 _ l g4 x4 (E4.unset1 (hnl l)) p4, fun G4 H4 σ4 l g4 x4 E4 p4 => en.ct G4 H4 _ l g4 x4 (E4.unset1 (hnl l)) p4⟩
end

/-! ### raise -/
section
variable {X : Cx} {c : Cn} {ρ : List Sl} {S L β α : Type} {out : S → List Sl} {lp : L → List Sl} {i : Rp β} {iα : Rp α} {rest : List Stmt} {tr : TS} {Φr : Pt (Out S L β)} {e : Expr} {te : TE} {Φe : Pt α} {x fl pn : Str} {p pos pos' : Pos} {C fI : Addr} {fd : FuncData} {k : Nat}
def tRaise1 (W : WX) (C : Addr) (fl : Str) (te : TE) : TS := fun _ σ H => tMkO C (spE C [fl] fun _ => True) [] (tCons te tNil) σ H fun cls d H' => W cls d σ H'
/-- raise E(e), E with one field -/
theorem b_raise1 [dα : Dat α iα] (T : ErrC X.K C fI) (hC : C = He.ga X.K x) (F : FnOk X.prog X.w X.K X.mg X.base (L2.CX X.prog X.w) k fI fd ["self", pn] (spE C [fl] fun _ => True)) (hr : Room (k + 1) X.A) (hb : Binds X.K fd ["self", pn] []) (hc : X.calm = true) (hm : X.mg x = some (.ref C)) (tk : Takes X c.wsh) (he : JE X c e ρ iα te Φe) (hrest : JB X c rest ρ out lp i tr Φr)
    (hg : Gl X x := by rfl) (hdb : (x == ("__debug__" : Str)) = false := by decide) (hst : starEach [e] X.env = (false, eval e X.env) :: starEach [] X.env := by rfl) :
    JB X c (.Raise (some (.Call (.Name x p) [e] [] pos)) none pos' :: rest) ρ out lp i (tSeq (tRaise1 c.wsh C fl te) tr) (fun post ep => Φe (fun m => ep ⟨x, [(fl, dα.enc m)]⟩) ep) := by
  have hpass : Passes (L2.CX X.prog X.w) X fun _ _ _ => False := fun pins σ H s e s' I ⟨_, _, _, _, _, _, _, _, _, _, _, _, z⟩ => z.elim
  refine ⟨pss_cons (ps_raise hc tk (pmk_oex T.o T.init T.ty F hr hb .nil hpass hg hm (pa_cons he.pe pa_nil hst) hdb hst)) hrest.pe, fun post ep φ G H σ g E D kk hx => ?_⟩
  refine he.sem _ _ φ G H σ g.w E _ (fun G1 H1 v m g1 r q => ?_) (hx.at g)
  show [v].length ≤ 1000 ∧ _
  refine ⟨by simp, fun a na => ⟨a, [v], rfl, rfl, trivial, upd_same, fun d hd hda => ⟨rfl, d, [(fl, v)], upd_same, by rw [upd_ne hda]; exact upd_same, ?_, ?_⟩⟩⟩
  · rw [upd_ne hda] at hd
    exact hd
  · rw [upd_ne hda] at hd
    have eH : upd (del (upd (upd (upd H1 a (exo a C none)) d (exd d [(fl, v)])) a (exo a C (some d))) a) d (.xd [(fl, v)]) = upd H1 d (.xd [(fl, v)]) := funext fun b => by
      by_cases z : b = d
      · rw [z, upd_same, upd_same]
      · rw [upd_ne z, upd_ne z]
        by_cases y : b = a
        · rw [y, del_same, na]
        · rw [del_ne y, upd_ne y, upd_ne z, upd_ne y]
    have eL : ([fl].zip [v]).reverse = [(fl, v)] := rfl
    rw [eL]
    show c.wsh (.ref C) (some d) σ (upd (del (upd (upd (upd H1 a (exo a C none)) d (exd d [(fl, v)])) a (exo a C (some d))) a) d (.xd [(fl, v)]))
    rw [eH]
    have g2 := gr_new (o := .xd [(fl, v)]) g1.w hd
    refine hx (upd G1 d (.xd [(fl, v)])) (upd H1 d (.xd [(fl, v)])) σ (.ref C) (some d) ⟨x, [(fl, dα.enc m)]⟩ ((g.trans g1).trans g2) ⟨by rw [hC], d, _, rfl, upd_same, fun f u z => ?_⟩ q
    rw [List.lookup_cons] at z ⊢
    cases zf : (f == fl) with
    | true =>
      rw [zf] at z
      cases z
      exact ⟨v, rfl, dp_up g2.g (dα.dp r)⟩
    | false =>
      rw [zf] at z
      cases z
end
end Ty

set_option Elab.async false
set_option linter.all false
set_option maxRecDepth 100000
set_option maxHeartbeats 1000000
set_option autoImplicit false
/-! Ty, part V: bodies with super(); instances of a line of classes; __init__ by super().__init__ -/
namespace Ty
open PySem PySem.Spec PyProof.Rows L2 NdefX ClX

structure JS (X : Cx) (c : Cn) (body ss : List Stmt) (ρ : List Sl) {S L β : Type} (out : S → List Sl) (lp : L → List Sl) (i : Rp β) (t : TS) (Φ : Pt (Out S L β)) : Prop where
  pe : SsAt X body ss t
  sem : ∀ post ep, Φ post ep → ∀ G H σ, Gr c.rs c.G0 c.H0 G H → En X.K c.rs c.H0 G H σ ρ → ∀ D : Ends, EndsOk X c G i out lp post D → XOkS X c ep → t D σ H
structure JES (X : Cx) (c : Cn) (body : List Stmt) (e : Expr) (ρ : List Sl) {α : Type} (i : Rp α) (t : TE) (Φ : Pt α) : Prop where
  pe : EAt X body e t
  sem : ∀ post ep, Φ post ep → ∀ G H σ, Wd c.rs G H → En X.K c.rs c.H0 G H σ ρ → ∀ Q : VK, (∀ G' H' v m, Gr c.rs G H G' H' → i.rp X.K G' v m → post m → Q v H') → XOk X c G H σ ep → t σ H Q
section
variable {X : Cx} {c : Cn} {body : List Stmt} {ρ : List Sl} {S L β α : Type} {out : S → List Sl} {lp : L → List Sl} {i : Rp β} {iα : Rp α} {pos px : Pos} {rest : List Stmt} {tr : TS} {e : Expr} {te : TE} {Φe : Pt α}
theorem js_of {Φr : Pt (Out S L β)} (h : JB X c rest ρ out lp i tr Φr) : JS X c body rest ρ out lp i tr Φr := ⟨SsAt.of h.pe, h.sem⟩
theorem js_set [Nonempty α] (j : Nat) {x : Str} {Φr : α → Pt (Out S L β)} (hN : X.N.Nodup) (he : JES X c body e ρ iα te Φe) (hr : ∀ m, JB X c rest (ρ.set j (.val iα m)) out lp i tr (Φr m)) (hj : X.N[j]? = some x := by rfl) (hx : X.env.scope.names.lookup x = some .local := by rfl)
    (hs : swapsWith e (some (.Name x px)) pos.line X.env = pure false := by rfl) : JS X c body (.Assign [.Name x px] e pos :: rest) ρ out lp i (tSeq (tAsg te (gName j)) tr) (fun post ep => Φe (fun m => Φr m post ep) ep) := by
  refine ⟨ssAt_cons (sAt_asg he.pe hN hj hx hs) (SsAt.of (hr (Classical.choice inferInstance)).pe), fun post ep φ G H σ g E D k hx => ?_⟩
  refine he.sem _ _ φ G H σ g.w E _ (fun G1 H1 v m g1 r p => ?_) (hx.at g)
  exact (hr m).sem _ _ p G1 H1 _ (g.trans g1) ((E.up g1).set (x := .val iα m) ⟨v, rfl, r⟩ rfl) D (k.up g1.g) hx
theorem js_ret {Φe : Pt β} (he : JES X c body e ρ i te Φe) : JS X c body [.Return (some e) pos] ρ out lp i (tSeq (tRet te) tNext) (fun post ep => Φe (fun m => post (.rt m)) ep) :=
  ⟨ssAt_cons (sAt_ret he.pe) (SsAt.of pss_nil), fun post ep φ G H σ g E D k hx => he.sem _ _ φ G H σ g.w E _ (fun G1 H1 v m g1 r p => k.rt G1 H1 v m (g.trans g1) g1.g r p) (hx.at g)⟩
theorem js_if [Nonempty α] {t : Expr} {b1 b2 : List Stmt} {tt : TT} {t1 t2 : TS} {Φt : Pt Bool} {Φ1 Φ2 : Pt (Out α L β)} {Φr : α → Pt (Out S L β)} {mid : α → List Sl} (ht : JT X c t ρ tt Φt) (h1 : JB X c b1 ρ mid lp i t1 Φ1) (h2 : JB X c b2 ρ mid lp i t2 Φ2) (hr : ∀ s, JS X c body rest (mid s) out lp i tr (Φr s)) :
    JS X c body (.If t b1 b2 pos :: rest) ρ out lp i (tSeq (tIfS tt t1 t2) tr) (fun post ep => Φt (fun k => if k = true then Φ1 (seqP Φr post ep) ep else Φ2 (seqP Φr post ep) ep) ep) := by
  refine ⟨ssAt_cons (SAt.of (ps_if ht.pe h1.pe h2.pe)) (hr (Classical.choice inferInstance)).pe, fun post ep φ G H σ g E D k hx => ?_⟩
  refine ht.sem _ _ φ G H σ g.w E _ (fun G1 H1 m g1 p => ?_) (hx.at g)
  have k1 := k.up g1.g
  have ends : EndsOk X c G1 i mid lp (seqP Φr post ep) { D with nx := tr D } :=
    ⟨fun G' H' σ' s g' x' E' p' => (hr s).sem _ _ p' G' H' σ' g' E' D (k1.up x') hx, fun _ _ v b g' x' r p' => k1.rt _ _ v b g' x' r p', fun _ _ σ' l g' x' E' p' => k1.bk _ _ σ' l g' x' E' p', fun _ _ σ' l g' x' E' p' => k1.ct _ _ σ' l g' x' E' p'⟩
  cases m with
  | true => exact h1.sem _ _ p G1 H1 σ (g.trans g1) (E.up g1) _ ends hx
  | false => exact h2.sem _ _ p G1 H1 σ (g.trans g1) (E.up g1) _ ends hx
end

/-! ### instances whose class depends on the value -/
abbrev rpIns {α : Type} (cls : Fg → α → Addr) (fs : α → List (Str × Fp)) : Rp α := ⟨fun K G v m => ∃ a dx vs, v = .ref a ∧ G a = some (.ins (cls K m) dx vs) ∧ FlAll K G vs (fs m), fun x h => by
  obtain ⟨a, dx, vs, h1, h2, h3⟩ := h
  exact ⟨a, dx, vs, h1, x _ _ h2, h3.mono x⟩⟩
theorem no_key {vs : List (Str × V)} {m : Str} (h : ¬ m ∈ vs.map (·.1)) : vs.lookup m = none := by
  induction vs with
  | nil => rfl
  | cons p r ih =>
    obtain ⟨f, v⟩ := p
    have h1 : ¬ m = f := fun z => h (by rw [z]; exact List.mem_cons_self)
    rw [List.lookup_cons, beq_eq_false_iff_ne.mpr h1]
    exact ih fun z => h (List.mem_cons_of_mem _ z)
def tMethD (Dp : Addr → Prop) (m : Str) (sp : Addr → Sp) (E : L2.St → XK) (ta : TE) (t : TA) : TE := fun σ H Q => ta σ H fun x H1 => ∃ a C dx fs, x = .ref a ∧ H1 a = some (.ins C dx fs) ∧ fs.lookup m = none ∧ Dp C ∧ t σ H1 fun vs H2 => sp C (x :: vs) H2 Q (E σ)
def tCallD (Dp : Addr → Prop) (sp : Addr → Sp) (E : L2.St → XK) (ta : TE) (t : TA) : TE := fun σ H Q => ta σ H fun x H1 => ∃ a, x = .ref a ∧ t σ H1 fun vs H2 => ∃ C dx fs, H2 a = some (.ins C dx fs) ∧ Dp C ∧ sp C (x :: vs) H2 Q (E σ)
/-- the promise at the class C -/
abbrev spC {α β ι : Type} (K : Fg) (cls : Fg → α → Addr) (fs : α → List (Str × Fp)) (as : ι → List Sl) (iβ : Rp β) (Φ : α × ι → Pt β) (C : Addr) : Sp := spOf K rs0 (aCons (rpIns cls fs) as) iβ fun x post ep => cls K x.1 = C ∧ Φ x post ep
section
variable {X : Cx} {c : Cn} {ρ : List Sl} {α β ι : Type} {cls : Fg → α → Addr} {fs : α → List (Str × Fp)} {iβ : Rp β} {as : ι → List Sl} {e o : Expr} {es : List Expr} {te ta : TE} {t : TA} {Φe Φo : Pt α} {Φr : Pt ι} {f m : Str} {pos apos : Pos} {k : Nat} {ps : List Str}
/-- a field that some of them have -/
theorem e_fldC {pre : α → Prop} {get : α → β} (hf : ∀ x, pre x → ∃ l r, fs x = l ++ (f, fld iβ (get x)) :: r ∧ ¬ f ∈ l.map (·.1)) (hc : ∀ x, pre x → Cls X.K (cls X.K x) ∧ NoAttr X.K (cls X.K x) f) (he : JE X c e ρ (rpIns cls fs) te Φe) (hb : attributeBase e f X.env (eval e X.env) = eval e X.env := by rfl) :
    JE X c (.Attribute e f pos) ρ iβ (tFld X.K te f) (fun post ep => Φe (fun x => pre x ∧ post (get x)) ep) := by
  refine ⟨pe_fld he.pe hb, fun post ep φ G H σ w E Q k hx => he.sem _ _ φ G H σ w E _ (fun G1 H1 v x g r p => ?_) hx⟩
  obtain ⟨p1, p2⟩ := p
  obtain ⟨a, dx, vs, rfl, h1, h2⟩ := r
  obtain ⟨l, r, e1, e2⟩ := hf x p1
  obtain ⟨u, e3, e4⟩ := h2.at e1 e2
  obtain ⟨c1, c2⟩ := hc x p1
  exact ⟨a, _, dx, vs, u, rfl, g.w.s _ _ h1, c1, c2, e3, k G1 H1 u _ g e4 p2⟩
/-- what a class gives for the method m -/
def DispM (P : Program) (w : World) (K : Fg) (mg : Str → Option Value) (base : Heap) (m : Str) (k : Nat) (ps : List Str) (sp : Addr → Sp) (C : Addr) : Prop := ∃ f fd, Cls K C ∧ Meth K C m f ∧ FnOk P w K mg base (L2.CX P w) k f fd ps (sp C) ∧ Binds K fd ps []
def DispC (P : Program) (w : World) (K : Fg) (mg : Str → Option Value) (base : Heap) (k : Nat) (ps : List Str) (sp : Addr → Sp) (C : Addr) : Prop := ∃ f fd, StX.CallO K C f ∧ FnOk P w K mg base (L2.CX P w) k f fd ps (sp C) ∧ Binds K fd ps []
theorem e_methD {pl : Sem Bool} {Φ : α × ι → Pt β} (hd : ∀ x, ¬ m ∈ (fs x).map (·.1) ∧ DispM X.prog X.w X.K X.mg X.base m k ps (spC X.K cls fs as iβ Φ) (cls X.K x)) (ho : JE X c o ρ (rpIns cls fs) ta Φo) (hr : Room k X.A) (tk : Takes X c.wsh) (ha : JA X c (e :: es) ρ as t Φr)
    (hst : starEach (e :: es) X.env = (false, eval e X.env) :: starEach es X.env := by rfl) (hpl : (backTo pos (starEach es X.env)).any (·.1) = false := by rfl)
    (ht : eval (.Call (.Attribute o m apos) (e :: es) [] pos) X.env = (do
      let ov ← eval o X.env
      standAt apos.atName
      let (f, first) ← holding [ov] (getMethod ov m pl)
      callWith pos f first (backTo pos (starEach (e :: es) X.env)) (backToKw pos (keywordEach [] X.env))) := by rfl) :
    JE X c (.Call (.Attribute o m apos) (e :: es) [] pos) ρ iβ (tMethD (DispM X.prog X.w X.K X.mg X.base m k ps (spC X.K cls fs as iβ Φ)) m (spC X.K cls fs as iβ Φ) (fun σ => L2.WE c.wsh σ) ta t) (fun post ep => Φo (fun z => Φr (fun y => Φ (z, y) post ep) ep) ep) := by
  refine ⟨⟨fun pins s σ H Q I h => ?_⟩, fun post ep φ G H σ w E Q k hx => ?_⟩
  · refine PySem.W.methodCall_KW (pl := pl) (thn (ho.pe.run pins s σ H _ I h) fun u s1 ⟨x, H1, I1, rx, a, C, dx, vs, ex, ea, l, ⟨g, fd, c1, hm, F, hb⟩, q⟩ => ?_) ht
    subst ex
    obtain rfl : u = Value.ref a := rx
    refine getmeth_ok I1 ea c1 hm l (PySem.W.callWith_K (first := [.ref a]) (h₀ := X.base) I1.ok.mod.kin hm.kp (thn (ha.pe.run pos pins s1 σ H1 _ I1 q) fun us s2 ⟨vs, H2, I2, r, q2⟩ => ⟨I2.kIn, ?_⟩) hst hpl)
    exact run_fnS (us := .ref a :: us) (vs := .ref a :: vs) F hr hb (passAt tk σ) I2 (.cons rfl r) q2
  · refine ho.sem _ _ φ G H σ w E _ (fun G1 H1 v z g1 r1 φ1 => ?_) hx
    obtain ⟨p, dx, vs, rfl, h1, h2⟩ := id r1
    obtain ⟨d1, d2⟩ := hd z
    refine ⟨p, _, dx, vs, rfl, g1.w.s _ _ h1, no_key (by rw [h2.names]; exact d1), d2, ?_⟩
    refine ha.sem _ _ φ1 G1 H1 σ g1.w (E.up g1) _ (fun G2 H2 us y g2 r2 φ2 => ?_) (hx.up g1)
    have g12 := g1.trans g2
    exact ⟨G2, (z, y), post, ep, g12.w.to0, .cons (.val ((rpIns cls fs).mono g2.g r1)) r2, ⟨rfl, φ2⟩, fun G' H' v' m' g r p => k G' H' v' m' (g12.trans (g.lift g12.w)) r p, fun G' H' cl d e' g r p => hx G' H' cl d e' (g12.trans (g.lift g12.w)) r p⟩
theorem e_callO {Φ : α × ι → Pt β} (hd : ∀ x, DispC X.prog X.w X.K X.mg X.base k ps (spC X.K cls fs as iβ Φ) (cls X.K x)) (ho : JE X c o ρ (rpIns cls fs) ta Φo) (hr : Room k X.A) (tk : Takes X c.wsh) (ha : JA X c (e :: es) ρ as t Φr)
    (ht : eval (.Call o (e :: es) [] pos) X.env = (do callWith pos (← eval o X.env) [] (backTo pos (starEach (e :: es) X.env)) (backToKw pos (keywordEach [] X.env))) := by rfl)
    (hst : starEach (e :: es) X.env = (false, eval e X.env) :: starEach es X.env := by rfl) (hpl : (backTo pos (starEach es X.env)).any (·.1) = false := by rfl) :
    JE X c (.Call o (e :: es) [] pos) ρ iβ (tCallD (DispC X.prog X.w X.K X.mg X.base k ps (spC X.K cls fs as iβ Φ)) (spC X.K cls fs as iβ Φ) (fun σ => L2.WE c.wsh σ) ta t) (fun post ep => Φo (fun z => Φr (fun y => Φ (z, y) post ep) ep) ep) := by
  refine ⟨⟨fun pins s σ H Q I h => ?_⟩, fun post ep φ G H σ w E Q k hx => ?_⟩
  · refine Call_ (thn (ho.pe.run pins s σ H _ I h) fun u s1 ⟨x, H1, I1, rx, a, ex, q⟩ => ?_) ht
    subst ex
    obtain rfl : u = Value.ref a := rx
    refine StX.callO_with (thn (ha.pe.run pos pins s1 σ H1 _ I1 q) fun us s2 ⟨vs, H2, I2, r, C, dx, ws, h1, ⟨g, fd, c1, F, hb⟩, q2⟩ => ?_) hst hpl
    obtain ⟨ox, od, J, hpd⟩ := StX.insC_at I2 (C := C) (.inr ⟨dx, ws, h1⟩)
    refine ⟨⟨C, ox, od, J, hpd⟩, wpAny_call (PySem.W.kco_code I2.kIn J hpd c1.at_ c1.fn c1.fi ?_)⟩
    have hl : (Value.ref a :: us).length = ps.length := by
      have y := F.len _ _ _ _ q2
      rw [← y, List.length_cons, List.length_cons, r.length]
    have b2 := hb s2 (Value.ref a :: us) I2.kIn (by rw [List.append_nil]; exact hl)
    rw [List.append_nil] at b2
    refine codeAny_mono (F.run _ _ s2 H2 ⟨Value.ref a :: us, []⟩ (Value.ref a :: us) (V.ref a :: vs) Q _ hr I2.env0 b2 (.cons rfl r) q2) fun rr s' hq => ?_
    cases rr with
    | error er => exact passAt tk σ pins H2 s2 er s' I2 hq
    | ok fl =>
      cases fl with
      | ret u => exact I2.after hq
      | next => exact False.elim hq
      | brk => exact False.elim hq
      | cont => exact False.elim hq
  · refine ho.sem _ _ φ G H σ w E _ (fun G1 H1 v z g1 r1 φ1 => ?_) hx
    obtain ⟨p, dx, vs, rfl, h1, h2⟩ := id r1
    refine ⟨p, rfl, ha.sem _ _ φ1 G1 H1 σ g1.w (E.up g1) _ (fun G2 H2 us y g2 r2 φ2 => ?_) (hx.up g1)⟩
    have g12 := g1.trans g2
    refine ⟨_, dx, vs, g2.w.s _ _ (g2.g _ _ h1), hd z, ?_⟩
    exact ⟨G2, (z, y), post, ep, g12.w.to0, .cons (.val ((rpIns cls fs).mono g2.g r1)) r2, ⟨rfl, φ2⟩, fun G' H' v' m' g r p => k G' H' v' m' (g12.trans (g.lift g12.w)) r p, fun G' H' cl d e' g r p => hx G' H' cl d e' (g12.trans (g.lift g12.w)) r p⟩
/-- isinstance by the value -/
theorem isiwD {α : Type} {iα : Rp α} {t : α → Value} {u : Value} {cv : V} {b : α → Bool} (ht : ∀ (G H : Hp) (v : V) (m : α), Ex G H → iα.rp X.K G v m → TyX X.K H v (t m)) (hc : ClsV cv u) (hk : ∀ m, PySem.W.kitOne X.K (t m) u = some (b m)) : CallW X (.builtin "isinstance") (as2 iα (rpC cv)) rpB (rIsi X.K) (fun x post _ => post (b x.1)) :=
  ⟨call_isi, fun rs G H vs x post ep Q w ha φ k => by
    obtain ⟨v, v2, rfl, h1, h2⟩ := two2 ha
    obtain rfl : v2 = cv := h2
    exact ⟨v, v2, t x.1, u, b x.1, rfl, hc, ht _ _ _ _ w.s h1, hk x.1, k G H _ _ (Gr.refl w) rfl φ⟩⟩
end
end Ty

set_option Elab.async false
set_option linter.all false
set_option maxRecDepth 100000
set_option maxHeartbeats 1000000
set_option autoImplicit false
/-! Ty, part W: rules for defs with super(), __init__ of a line of classes -/
namespace Ty
open PySem PySem.Spec PyProof.Rows L2 NdefX ClX

section
variable {P : Program} {w : World} {K : Fg} {mg : Str → Option Value} {base : Heap} {N ps : List Str} {F : NF} {f cc D : Addr} {fd : FuncData} {k : Nat} {ι β : Type} {i : Rp β}
abbrev Cs (P : Program) (w : World) (K : Fg) (mg : Str → Option Value) (base : Heap) (N : List Str) (F : NF) (f : Addr) (A : Around) (outer : List Env) (s : Shared) (H : Hp) (E : XK) : Cx := ncx (L2.CX P w) P w K mg base N F f A outer s H E
theorem takes_s {A : Around} {outer : List Env} {s : Shared} {H : Hp} {E : XK} : Takes (Cs P w K mg base N F f A outer s H E) fun cls d _ H' => E cls d H' := takes_of rfl rfl rfl rfl
theorem startF_eq {vs : List V} (h : vs.length + 1 ≤ N.length) : startF N vs [none] = vs.map some ++ List.replicate (N.length - vs.length) none := by
  unfold startF
  have e : N.length - vs.length = (N.length - vs.length - 1) + 1 := by omega
  rw [e, List.replicate_succ]
  rfl
theorem nsc_len {sc : Scope} (S : NScope N ps [("__class__" : Str)] sc) : ps.length + 1 ≤ N.length := by
  have q := congrArg List.length S.pre
  rw [List.length_take, List.length_append] at q
  have : ([("__class__" : Str)]).length = 1 := rfl
  omega
/-- a def with super(), without a resource -/
theorem fnS_ok (U : SupD K P F f D cc fd) (S : NScope N ps [("__class__" : Str)] F.scope) {as : ι → List Sl} {Φ : ι → Pt β} {Φb : ι → Pt (Out Unit Empty β)} (hl : ∀ y, (as y).length = ps.length)
    (hb : ∀ (y : ι) (A : Around) (outer : List Env) (s : Shared) (H G : Hp) (E : XK), Room k (A.deeper (envF F f s.heap.objs.size)) →
      ∃ tb, JS (Cs P w K mg base N F f A outer s H E) (Cc rs0 G H E) F.body F.body (as y ++ List.replicate (N.length - ps.length) .no) (fun _ : Unit => List.replicate N.length .no) (fun z : Empty => nomatch z) i tb (Φb y))
    (hΦ : ∀ y post ep, Φ y post ep → Φb y (endP False post) ep) : FnOk P w K mg base (L2.CX P w) (k + 1) f fd ps (spOf K rs0 as i Φ) := by
  refine fnS_of U S (fun vs H Q E h => ?_) fun A outer s H vs Q E hr h => ?_
  · obtain ⟨G, y, post, ep, _, ha, _⟩ := h
    exact ha.len.trans (hl y)
  · obtain ⟨G, y, post, ep, wd, ha, φ, hq, hx⟩ := h
    obtain ⟨tb, J⟩ := hb y A outer s H G E hr
    have hvl : vs.length = ps.length := ha.len.trans (hl y)
    refine ⟨tb, J.pe, J.sem _ _ (hΦ y post ep φ) G H _ (Gr.refl wd) ?_ _ ⟨fun _ _ _ _ _ _ _ p => p.elim, fun G' H' v b g _ r p => hq G' H' v b g r p, fun _ _ _ _ _ _ _ p => p.elim, fun _ _ _ _ _ _ _ p => p.elim⟩ fun G' H' σ' cls d e g r p => hx G' H' cls d e g r p⟩
    rw [startF_eq (by rw [hvl]; exact nsc_len S), hvl]
    exact en_args (rs := rs0) (H0 := H) (H := H) ha (N.length - ps.length)

/-! ### super().m(..) -/
variable {A : Around} {outer : List Env} {s0 : Shared} {H0 : Hp} {E0 : XK} {c : Cn} {body : List Stmt} {ρ : List Sl} {α : Type} {iα : Rp α} {as : ι → List Sl} {Φr : Pt ι} {Φ : α × ι → Pt β} {f2 : Addr} {fd2 : FuncData} {ps2 : List Str} {m : Str} {e : Expr} {es : List Expr} {t : TA} {p0 p1 apos pos : Pos} {kk : Nat}
theorem e_supM {pl : Sem Bool} {x : α} (ok : α → Prop) (hi : ∀ (G : Hp) (v : V) (y : α), ok y → iα.rp K G v y → ∃ p C dx fs, v = .ref p ∧ G p = some (.ins C dx fs) ∧ SupTo K D C m f2) (hρ : ρ[0]? = some (.val iα x)) (U : SupD K P F f D cc fd) (S : NScope N ps [("__class__" : Str)] F.scope) (hps : ps[0]? = some ("self" : Str)) (hmg : mg "super" = none)
    (hs2 : F.scope.names.lookup ("super" : Str) = some .globalImplicit) (hat : (m == ("__class__" : Str)) = false) (A2 : FnA K f2) (G2 : FnOk P w K mg base (L2.CX P w) kk f2 fd2 ps2 (spOf K rs0 (aCons iα as) i Φ)) (hr : Room kk (A.deeper (envF F f s0.heap.objs.size))) (hb : Binds K fd2 ps2 [])
    (tk : Takes (Cs P w K mg base N F f A outer s0 H0 E0) c.wsh) (ha : JA (Cs P w K mg base N F f A outer s0 H0 E0) c (e :: es) ρ as t Φr)
    (hst : starEach (e :: es) (envF F f s0.heap.objs.size) = (false, eval e (envF F f s0.heap.objs.size)) :: starEach es (envF F f s0.heap.objs.size) := by rfl) (hpl : (backTo pos (starEach es (envF F f s0.heap.objs.size))).any (·.1) = false := by rfl)
    (ht : eval (.Call (.Attribute (.Call (.Name "super" p0) [] [] p1) m apos) (e :: es) [] pos) (envF F f s0.heap.objs.size) = (do
      let ov ← attributeBase (.Call (.Name "super" p0) [] [] p1) m (envF F f s0.heap.objs.size) (eval (.Call (.Name "super" p0) [] [] p1) (envF F f s0.heap.objs.size))
      standAt apos.atName
      let (g, first) ← holding [ov] (getMethod ov m pl)
      callWith pos g first (backTo pos (starEach (e :: es) (envF F f s0.heap.objs.size))) []) := by rfl) :
    JES (Cs P w K mg base N F f A outer s0 H0 E0) c body (.Call (.Attribute (.Call (.Name "super" p0) [] [] p1) m apos) (e :: es) [] pos) ρ i (tSupM K D f2 m (spOf K rs0 (aCons iα as) i Φ) (fun σ => L2.WE c.wsh σ) t) (fun post ep => ok x ∧ Φr (fun y => Φ (x, y) post ep) ep) := by
  have hN0 : N[0]? = some ("self" : Str) := by
    have h1 : (ps ++ [("__class__" : Str)])[0]? = some ("self" : Str) := by
      rw [List.getElem?_append_left (List.getElem?_eq_some_iff.mp hps).1]
      exact hps
    rw [← S.pre, List.getElem?_take_of_lt (by show 0 < ps.length + 1; omega)] at h1
    exact h1
  refine ⟨eAt_sup U hmg S.kind hN0 (S.par _ (List.mem_of_getElem? hps)) hs2 (S.frk _ (by simp)) hat A2.ty A2.fn G2 hr hb (fun σ => passAt tk σ) ha.pe hst hpl ht, fun post ep φ G H σ wd E Q k hx => ?_⟩
  obtain ⟨φ0, φ⟩ := φ
  obtain ⟨v, hσ, r⟩ := E.val hρ
  obtain ⟨p, C, dx, fs, rfl, h1, T⟩ := hi G v x φ0 r
  refine ⟨p, C, dx, fs, hσ, wd.s _ _ h1, T, ha.sem _ _ φ G H σ wd E _ (fun G1 H1 vs y g1 r1 φ1 => ?_) hx⟩
  exact ⟨G1, (x, y), post, ep, g1.w.to0, .cons (.val (iα.mono g1.g r)) r1, φ1, fun G' H' v' m' g r p => k G' H' v' m' (g1.trans (g.lift g1.w)) r p, fun G' H' cl d e' g r p => hx G' H' cl d e' (g1.trans (g.lift g1.w)) r p⟩
end

/-! ### __init__ of a line of classes -/
section
variable {S ι δ : Type}
structure JSt (K : Fg) (okC : Addr → Prop) (as : ι → List Sl) (Φ : ι → Pt S) (fs : S → List (Str × Fp)) (vs : List V) (H : Hp) (Q : VK) (E : XK) (G0 H0 G : Hp) (x dx C : Addr) (us : List V) (y : ι) (post : S → Prop) (ep : Exn → Prop) : Prop where
  ev : vs = .ref x :: us
  ok : okC C
  g : Gr rs0 G0 H0 G H
  hx : H x = some (.ins C dx [])
  hd : H dx = some (.own x)
  x0 : H0 x = none
  d0 : H0 dx = none
  xg : G x = none
  dg : G dx = none
  a : ArgsOk K G us (as y)
  φ : Φ y post ep
  q : ∀ G' H' s, Gr rs0 G0 H0 G' H' → Ex G G' → SlOk K rs0 H0 G' H' (some (some (.ref x))) (.oi x C (fs s)) → post s → Q .non H'
  e : ∀ G' H' cls d e, Gr rs0 G0 H0 G' H' → XRep K G' H' cls d e → ep e → E cls d H'
/-- what such an __init__ promises: the fields of the new instance, which may change yet -/
def spJ (K : Fg) (okC : Addr → Prop) (as : ι → List Sl) (fs : S → List (Str × Fp)) (Φ : ι → Pt S) : Sp := fun vs H Q E => ∃ G0 H0 G x dx C us y post ep, JSt K okC as Φ fs vs H Q E G0 H0 G x dx C us y post ep
variable {K : Fg} {okC : Addr → Prop} {as : ι → List Sl} {fs : S → List (Str × Fp)} {Φ : ι → Pt S}
theorem en_oi {H0 G H : Hp} {x dx C : Addr} {us : List V} {n : Nat} {as' : List Sl} (h1 : H x = some (.ins C dx [])) (h2 : H dx = some (.own x)) (x0 : H0 x = none) (d0 : H0 dx = none) (xg : G x = none) (dg : G dx = none) (ha : ArgsOk K G us as') :
    En K rs0 H0 G H ((V.ref x :: us).map some ++ List.replicate n none) (.oi x C [] :: as' ++ List.replicate n .no) := by
  have e := en_args (rs := rs0) (H0 := H0) (H := H) ha n
  have noOwn : ∀ (j : Nat) (z : Sl), (as' ++ List.replicate n Sl.no)[j]? = some z → z.own = true → False := fun j z ez oz => by
    have all : ∀ (vs : List V) (bs : List Sl), ArgsOk K G vs bs → ∀ b, b ∈ bs → b.own = false := by
      intro vs bs h
      induction h with
      | nil => exact fun _ h => nomatch h
      | cons h _ ih =>
        intro b hm
        rcases List.mem_cons.mp hm with rfl | hm
        · cases h <;> rfl
        · exact ih b hm
    rcases List.mem_append.mp (List.mem_of_getElem? ez) with q | q
    · rw [all us _ ha z q] at oz
      cases oz
    · rw [List.eq_of_mem_replicate q] at oz
      cases oz
  refine ⟨by simpa using e.len, fun j z ez => ?_, fun j r z1 z2 l ne e1 e2 o1 o2 _ _ => ?_⟩
  · cases j with
    | zero =>
      have ez : some (Sl.oi x C []) = some z := ez
      cases ez
      exact ⟨dx, [], rfl, h1, .nil, x0, xg, fun z => z.elim, h2, d0, dg, fun z => z.elim⟩
    | succ j => exact e.ok j z ez
  · cases j with
    | succ j => exact noOwn j z1 e1 o1
    | zero => cases r with
      | zero => exact ne rfl
      | succ r => exact noOwn r z2 e2 o2
/-- the new instance is known for good -/
theorem FnOk.mkJ {P : Program} {w : World} {mg : Str → Option Value} {base : Heap} {k : Nat} {f C : Addr} {fd : FuncData} {ps : List Str} {iδ : Rp δ} {mk : S → δ} (F : FnOk P w K mg base (L2.CX P w) k f fd ps (spJ K okC as fs Φ)) (hC : okC C)
    (hrep : ∀ (s : S) (G : Hp) (q dx : Addr) (vs : List (Str × V)), G q = some (.ins C dx vs) → FlAll K G vs (fs s) → iδ.rp K G (.ref q) (mk s)) : FnOk P w K mg base (L2.CX P w) k f fd ps (spI K C as iδ fun y post ep => Φ y (fun s => post (mk s)) ep) := by
  refine F.imp fun vs H Q E h => ?_
  obtain ⟨G, Hb, q, dx, us, y, post, ep, rfl, rfl, h1, h2, h3, wd, ha, φ, hq, hx⟩ := h
  have fr : ∀ a, Hb a = none → G a = none := fun a e => by
    cases e2 : G a with
    | none => rfl
    | some u =>
      have z := wd.s a u e2
      rw [e] at z
      cases z
  have g1 := gr_newH (o := .own q) wd h2
  have g2 := gr_newH (o := .ins C dx []) g1.w (show upd Hb dx (.own q) q = none by rw [upd_ne fun z => h3 z.symm]; exact h1)
  refine ⟨G, Hb, G, q, dx, C, us, y, fun s => post (mk s), ep, rfl, hC, g1.trans g2, upd_same, by rw [upd_ne h3]; exact upd_same, h1, h2, fr q h1, fr dx h2, ha, φ, fun G' H' s g x e1 p => ?_, hx⟩
  obtain ⟨dx', vs', z1, z2, z3, z4, z5, z6, _⟩ := e1
  cases z1
  exact hq _ H' (mk s) (gr_frz g z4 z5 z6 z2) (hrep s _ q dx' vs' upd_same (z3.mono (Ex.new z5))) p
/-- a plain __init__ -/
theorem fn_okJ {P : Program} {w : World} {mg : Str → Option Value} {base : Heap} {x qual : Str} {params : Arguments} {body : List Stmt} {scope : Scope} {f : Addr} {fd : FuncData} {N ps : List Str} {k : Nat} {dvs : List V} {kws : List (Str × V)} {Φb : ι → Pt (Out S Empty Unit)} {tail : List Sl} (F : FunD K x qual params body scope dvs kws f fd) (Sc : FnScope N ps scope)
    (hps : ∀ y, (as y).length + 1 = ps.length)
    (hb : ∀ (y : ι) (q C : Addr) (cdv : Value) (A : Around) (outer : List Env) (s : Shared) (H Hb G : Hp) (E : XK), okC C → Room k (A.deeper (envOfC qual scope s.heap.objs.size f cdv)) →
      ∃ tb, JB (Cf P w K mg base N qual scope f cdv A outer s H E) (Cc rs0 G Hb E) body (.oi q C [] :: as y ++ List.replicate (N.length - ps.length) .no) (fun s : S => .oi q C (fs s) :: tail) (fun z : Empty => nomatch z) rpN tb (Φb y))
    (hΦ : ∀ y post ep, Φ y post ep → Φb y (endI id post) ep) : FnOk P w K mg base (L2.CX P w) (k + 1) f fd ps (spJ K okC as fs Φ) := by
  refine F.ok Sc (fun vs H Q E h => ?_) fun cdv A outer s H vs Q E hr h => ?_
  · obtain ⟨G0, H0, G, q, dx, C, us, y, post, ep, J⟩ := h
    rw [J.ev, List.length_cons, J.a.len]
    exact hps y
  · obtain ⟨G0, H0, G, q, dx, C, us, y, post, ep, J⟩ := h
    obtain ⟨tb, B⟩ := hb y q C cdv A outer s H H0 G0 E J.ok hr
    have hl : (V.ref q :: us).length = ps.length := by rw [List.length_cons, J.a.len]; exact hps y
    refine ⟨tb, B.pe, B.sem _ _ (hΦ y post ep J.φ) G H _ J.g ?_ _ ⟨fun G' H' σ' s' g xx E' p => ?_, fun _ _ _ _ _ _ _ p => p.elim, fun _ _ _ _ _ _ _ p => p.elim, fun _ _ _ _ _ _ _ p => p.elim⟩ fun G' H' σ' cls d e g r p => J.e G' H' cls d e g r p⟩
    · have st : L2.start N vs = (V.ref q :: us).map some ++ List.replicate (N.length - ps.length) none := by
        unfold L2.start
        rw [J.ev, hl]
      rw [st]
      exact en_oi J.hx J.hd J.x0 J.d0 J.xg J.dg J.a
    · have z := E'.ok 0 _ rfl
      obtain ⟨dx', vs', k1, k2⟩ := z
      exact J.q G' H' s' g xx ⟨dx', vs', rfl, k2⟩ p
/-- .. with super() -/
theorem fnS_okJ {P : Program} {w : World} {mg : Str → Option Value} {base : Heap} {F : NF} {f cc D : Addr} {fd : FuncData} {N ps : List Str} {k : Nat} {Φb : ι → Pt (Out S Empty Unit)} {tail : List Sl} (U : SupD K P F f D cc fd) (Sc : NScope N ps [("__class__" : Str)] F.scope) (hps : ∀ y, (as y).length + 1 = ps.length)
    (hb : ∀ (y : ι) (q C : Addr) (A : Around) (outer : List Env) (s : Shared) (H Hb G : Hp) (E : XK), okC C → Room k (A.deeper (envF F f s.heap.objs.size)) →
      ∃ tb, JS (Cs P w K mg base N F f A outer s H E) (Cc rs0 G Hb E) F.body F.body (.oi q C [] :: as y ++ List.replicate (N.length - ps.length) .no) (fun s : S => .oi q C (fs s) :: tail) (fun z : Empty => nomatch z) rpN tb (Φb y))
    (hΦ : ∀ y post ep, Φ y post ep → Φb y (endI id post) ep) : FnOk P w K mg base (L2.CX P w) (k + 1) f fd ps (spJ K okC as fs Φ) := by
  refine fnS_of U Sc (fun vs H Q E h => ?_) fun A outer s H vs Q E hr h => ?_
  · obtain ⟨G0, H0, G, q, dx, C, us, y, post, ep, J⟩ := h
    rw [J.ev, List.length_cons, J.a.len]
    exact hps y
  · obtain ⟨G0, H0, G, q, dx, C, us, y, post, ep, J⟩ := h
    obtain ⟨tb, B⟩ := hb y q C A outer s H H0 G0 E J.ok hr
    have hl : (V.ref q :: us).length = ps.length := by rw [List.length_cons, J.a.len]; exact hps y
    refine ⟨tb, B.pe, B.sem _ _ (hΦ y post ep J.φ) G H _ J.g ?_ _ ⟨fun G' H' σ' s' g xx E' p => ?_, fun _ _ _ _ _ _ _ p => p.elim, fun _ _ _ _ _ _ _ p => p.elim, fun _ _ _ _ _ _ _ p => p.elim⟩ fun G' H' σ' cls d e g r p => J.e G' H' cls d e g r p⟩
    · rw [J.ev, startF_eq (by rw [hl]; exact nsc_len Sc), hl]
      exact en_oi J.hx J.hd J.x0 J.d0 J.xg J.dg J.a
    · obtain ⟨dx', vs', k1, k2⟩ := E'.ok 0 _ rfl
      exact J.q G' H' s' g xx ⟨dx', vs', rfl, k2⟩ p
/-- super().__init__(e, ..) as the first statement: the fields that it gives -/
theorem js_supI {P : Program} {w : World} {mg : Str → Option Value} {base : Heap} {F : NF} {f cc D f2 q C : Addr} {fd fd2 : FuncData} {N ps ps2 : List Str} {kk : Nat} {A : Around} {outer : List Env} {s0 : Shared} {H0 : Hp} {E0 : XK} {c : Cn} {body rest : List Stmt} {ρ : List Sl} {S' L β : Type} {out : S' → List Sl} {lp : L → List Sl} {i : Rp β} {tr : TS} {Φr : S → Pt (Out S' L β)} {Φa : Pt ι} {e : Expr} {es : List Expr} {t : TA} {p0 p1 apos pos pos' : Pos} {pl : Sem Bool} [Nonempty S]
    (hrs : c.rs = rs0) (hC : okC C) (T : SupTo K D C "__init__" f2) (hρ : ρ[0]? = some (.oi q C [])) (hown : ∀ j y, ρ[j + 1]? = some y → y.own = false) (U : SupD K P F f D cc fd) (Sc : NScope N ps [("__class__" : Str)] F.scope) (hps : ps[0]? = some ("self" : Str)) (hmg : mg "super" = none)
    (hs2 : F.scope.names.lookup ("super" : Str) = some .globalImplicit) (A2 : FnA K f2) (G2 : FnOk P w K mg base (L2.CX P w) kk f2 fd2 ps2 (spJ K okC as fs Φ)) (hr : Room kk (A.deeper (envF F f s0.heap.objs.size))) (hb : Binds K fd2 ps2 []) (tk : Takes (Cs P w K mg base N F f A outer s0 H0 E0) c.wsh)
    (ha : JA (Cs P w K mg base N F f A outer s0 H0 E0) c (e :: es) ρ as t Φa) (hrest : ∀ s, JB (Cs P w K mg base N F f A outer s0 H0 E0) c rest (ρ.set 0 (.oi q C (fs s))) out lp i tr (Φr s))
    (hst : starEach (e :: es) (envF F f s0.heap.objs.size) = (false, eval e (envF F f s0.heap.objs.size)) :: starEach es (envF F f s0.heap.objs.size) := by rfl) (hpl : (backTo pos (starEach es (envF F f s0.heap.objs.size))).any (·.1) = false := by rfl)
    (ht : eval (.Call (.Attribute (.Call (.Name "super" p0) [] [] p1) "__init__" apos) (e :: es) [] pos) (envF F f s0.heap.objs.size) = (do
      let ov ← attributeBase (.Call (.Name "super" p0) [] [] p1) "__init__" (envF F f s0.heap.objs.size) (eval (.Call (.Name "super" p0) [] [] p1) (envF F f s0.heap.objs.size))
      standAt apos.atName
      let (g, first) ← holding [ov] (getMethod ov "__init__" pl)
      callWith pos g first (backTo pos (starEach (e :: es) (envF F f s0.heap.objs.size))) []) := by rfl)
    (hsw : swapsWith (.Call (.Attribute (.Call (.Name "super" p0) [] [] p1) "__init__" apos) (e :: es) [] pos) none pos'.line (envF F f s0.heap.objs.size) = pure false := by rfl) :
    JS (Cs P w K mg base N F f A outer s0 H0 E0) c body (.Expr (.Call (.Attribute (.Call (.Name "super" p0) [] [] p1) "__init__" apos) (e :: es) [] pos) pos' :: rest) ρ out lp i (tSeq (tDrop (tSupM K D f2 "__init__" (spJ K okC as fs Φ) (fun σ => L2.WE c.wsh σ) t)) tr)
      (fun post ep => Φa (fun y => Φ y (fun s => Φr s post ep) ep) ep) := by
  have hN0 : N[0]? = some ("self" : Str) := by
    have h1 : (ps ++ [("__class__" : Str)])[0]? = some ("self" : Str) := by
      rw [List.getElem?_append_left (List.getElem?_eq_some_iff.mp hps).1]
      exact hps
    rw [← Sc.pre, List.getElem?_take_of_lt (by show 0 < ps.length + 1; omega)] at h1
    exact h1
  have he := eAt_sup (body := body) U hmg Sc.kind hN0 (Sc.par _ (List.mem_of_getElem? hps)) hs2 (Sc.frk _ (by simp)) (by decide) A2.ty A2.fn G2 hr hb (fun σ => passAt tk σ) ha.pe hst hpl ht
  refine ⟨ssAt_cons (sAt_expr he hsw) (SsAt.of (hrest (Classical.choice inferInstance)).pe), fun post ep φ G H σ g E DD k hx => ?_⟩
  obtain ⟨dx, vs, h1, h2, h3, h4⟩ := E.ok 0 _ hρ
  cases h3
  refine ⟨q, C, dx, [], h1, h2, T, ha.sem _ _ φ G H σ g.w E _ (fun G1 H1 us y g1 r1 φ1 => ?_) (hx.at g)⟩
  obtain ⟨dx, vs, k1, k2, k3, k4, k5, k6, k7, k8, k9, k10⟩ := (E.up g1).ok 0 _ hρ
  cases k3
  have gg := g.trans g1
  rw [hrs] at gg
  refine ⟨c.G0, c.H0, G1, q, dx, C, us, y, fun s => Φr s post ep, ep, rfl, hC, gg, k2, k7, k4, k8, k5, k9, r1, φ1, fun G' H' s g2 x2 so p => ?_, fun G' H' cls d e g2 r p => hx G' H' σ cls d e (hrs ▸ g2) r p⟩
  have g2' : Gr c.rs c.G0 c.H0 G' H' := hrs ▸ g2
  have hσ0 : σ[0]? = some (some (.ref q)) := k1
  refine (hrest s).sem _ _ p G' H' σ g2' ⟨by rw [List.length_set]; exact E.len, fun j y e => ?_, fun j r y1 y2 l ne e1 e2 o1 o2 _ _ => ?_⟩ DD (k.up (g1.g.trans x2)) hx
  · rcases get_set e with ⟨rfl, rfl, z⟩ | ⟨z, e⟩
    · rw [hσ0, hrs]
      exact so
    · have hj : ∃ j', j = j' + 1 := ⟨j - 1, by omega⟩
      obtain ⟨j, rfl⟩ := hj
      have no := hown j y e
      have old := E.ok _ _ e
      cases y with
      | no => trivial
      | val iv m =>
        obtain ⟨v, e1, e2⟩ := old
        exact ⟨v, e1, iv.mono (g1.g.trans x2) e2⟩
      | rf a => exact old
      | ml iv xs => cases no
      | md iv xs => cases no
      | oi l C fs => cases no
  · have ow : ∀ (j : Nat) (y : Sl), (ρ.set 0 (.oi q C (fs s)))[j]? = some y → y.own = true → j = 0 := fun j y e o => by
      rcases get_set e with ⟨z, _, _⟩ | ⟨z, e⟩
      · exact z.symm
      · obtain ⟨j, rfl⟩ : ∃ j', j = j' + 1 := ⟨j - 1, by omega⟩
        rw [hown j y e] at o
        cases o
    exact ne ((ow j y1 e1 o1).trans (ow r y2 e2 o2).symm)
end
end Ty

set_option Elab.async false
set_option linter.all false
set_option maxRecDepth 100000
set_option maxHeartbeats 1000000
set_option autoImplicit false
/-! Ty, part X: within an except suite -/
namespace Ty
open PySem PySem.Spec PyProof.Rows L2 NdefX ClX L2H

/-- data that tell their value -/
class UnD (α : Type) (i : Rp α) [d : Dat α i] : Prop where
  back : ∀ {K : Fg} {G : Hp} {v : V} {m : α}, Dp K G v (d.enc m) → i.rp K G v m
instance : UnD Int rpI := ⟨fun {K G v m} h => by
  cases h
  exact rfl⟩
instance : UnD Str rpS := ⟨fun {K G v m} h => by
  cases h
  exact rfl⟩
section
variable {X : Cx} {c : Cn} {ρ : List Sl} {a C fI : Addr} {oe : Obj} {cls : Value} {d : Option Addr} {pn : List (Addr × Obj)} {x f n : Str} {px pos : Pos} {α : Type} {iα : Rp α} {e : Exn}
abbrev Xs (X : Cx) (a : Addr) (oe : Obj) (pn : List (Addr × Obj)) : Cx := X.suite a ((a, oe) :: pn)
/-- raised.f -/
theorem e_xf [dα : Dat α iα] [ud : UnD α iα] (j : Nat) (T : ErrC X.K C fI) (hC : C = He.ga X.K x) (hno : PySem.W.findIn X.K (.ref C) f = some none) (hz : Zc cls d oe) (hf : ∃ vs, oe.data = .fields vs) (hρ : ρ[j]? = some (.val (rpEx a cls d) e)) (hN : X.N[j]? = some n := by rfl) (hv : Vis X.env.scope n := by first | exact Or.inl rfl | exact Or.inr (Or.inl rfl) | exact Or.inr (Or.inr rfl))
    (hd : (n == ("__debug__" : Str)) = false := by decide) (hcd : (n == ("__classdict__" : Str)) = false := by decide) (hb : attributeBase (.Name n px) f X.env (eval (.Name n px) X.env) = eval (.Name n px) X.env := by rfl) :
    JE (Xs X a oe pn) c (.Attribute (.Name n px) f pos) ρ iα (tXf a cls d C f (tVar j)) (fun post ep => e.cls = x ∧ ∃ m, e.fs.lookup f = some (dα.enc m) ∧ post m) := by
  refine ⟨pe_xf T.x hno hz hf (pe_var (X := Xs X a oe pn) hN hv hd hcd) hb, fun post ep φ G H σ w E Q k hx => ?_⟩
  obtain ⟨p1, m, p2, p3⟩ := φ
  obtain ⟨v, hσ, rfl, r1, dd, fs, r2, r3, r4⟩ := E.val hρ
  obtain ⟨u, q1, q2⟩ := r4 f _ p2
  exact ⟨.ref a, hσ, rfl, by rw [r1, p1, hC], dd, fs, u, r2, w.s _ _ r3, q1, k G H u m (Gr.refl w) (ud.back q2) p3⟩
/-- isinstance(raised, c) -/
def rIsX (K : Fg) (C a : Addr) (cls : Value) (d : Option Addr) : List V → Hp → VK → Prop := fun xs H Q => cls = .ref C ∧ ∃ (dd : Addr) (fs : List (Str × V)) (cv : V) (u : Value) (b : Bool), d = some dd ∧ H dd = some (.xd fs) ∧ xs = [.ref a, cv] ∧ (∀ z, RelV cv z → z = u) ∧ PySem.W.kitOne K (.ref C) u = some b ∧ Q (.bl b) H
theorem call_isX (T : ErrC X.K C fI) (hz : Zc cls d oe) (hf : ∃ vs, oe.data = .fields vs) : CallR (Xs X a oe pn) (.builtin "isinstance") (rIsX X.K C a cls d) := by
  intro pins s σ H xs us Q I r h
  obtain ⟨rfl, dd, fs, cv, u, b, rfl, hd, rfl, hcv, hk, q⟩ := h
  cases r with
  | cons rx rr =>
    cases rr with
    | cons rt rr =>
      cases rr
      cases rx
      obtain rfl := hcv _ rt
      obtain ⟨hget, _⟩ := I.pin (a, oe) (List.mem_append.mpr (.inl List.mem_cons_self))
      obtain ⟨vs, hv⟩ := hf
      obtain ⟨mA, hns, _⟩ : ObjOk X.prog X.w H s.heap dd (.xd fs) := I.hok dd _ hd
      obtain ⟨od, ho, _⟩ := lookIn_ns hns
      have J : PySem.W.InstAt s.heap a oe C (some od) := ⟨hget, hz.1, by unfold PySem.W.notCls; rw [hv] <;> rfl, by rw [hz.2]; exact ho⟩
      exact PySem.W.kia_one (PySem.W.kitx_exc T.cl T.i.hg T.i.hk T.i.hs T.i.ha T.i.hn T.i.ht T.i.hm) I.kIn J hk (fun z => nomatch z) fun tk => ⟨.bl b, H, I.kept (t' := tk) fun _ _ z => z, rfl, q⟩
theorem isxw {cv : V} {u : Value} {b : Bool} (T : ErrC X.K C fI) (hC : C = He.ga X.K x) (hz : Zc cls d oe) (hf : ∃ vs, oe.data = .fields vs) (hcv : ∀ z, RelV cv z → z = u) (hk : PySem.W.kitOne X.K (.ref C) u = some b) :
    CallW (Xs X a oe pn) (.builtin "isinstance") (as2 (rpEx a cls d) (rpC cv)) rpB (rIsX X.K C a cls d) (fun y post _ => y.1.cls = x ∧ post b) :=
  ⟨call_isX T hz hf, fun rs G H vs y post ep Q w ha φ k => by
    obtain ⟨v, v2, rfl, ⟨rfl, r1, dd, fs, r2, r3, _⟩, h2⟩ := two2 ha
    obtain rfl : v2 = cv := h2
    exact ⟨by rw [r1, φ.1, hC], dd, fs, v2, u, b, r2, w.s _ _ r3, rfl, hcv, hk, k G H _ _ (Gr.refl w) rfl φ.2⟩⟩
end

/-! ### a def that may be called there: no loop, no raise -/
structure FnP (P : Program) (w : World) (K : Fg) (mg : Str → Option Value) (base : Heap) (k : Nat) (f : Addr) (fd : FuncData) (ps : List Str) (sp : Sp) : Prop where
  len : ∀ vs H Q E, sp vs H Q E → vs.length = ps.length
  run : ∀ (A : Around) (outer : List Env) (s : Shared) (H : Hp) (args : Args) (us : List Value) (vs : List V) (Q : VK) (E : XK) (p : Addr × Obj), RoomH k A → PinOk outer H s p → Env0 P w K mg base A outer s H → BindsTo s fd args (ps.zip us) → Vals vs us → sp vs H Q E →
    codeAny (model P w) A (.call (.ref f) args) (CR (L2.CX P w) outer P w H s Q E) s
section
variable {P : Program} {w : World} {K : Fg} {mg : Str → Option Value} {base : Heap} {x qual : Str} {params : Arguments} {body : List Stmt} {scope : Scope} {f : Addr} {fd : FuncData} {N ps : List Str} {k : Nat} {ι β : Type} {i : Rp β} {dvs : List V} {kws : List (Str × V)}
abbrev Cp (P : Program) (w : World) (K : Fg) (mg : Str → Option Value) (base : Heap) (N : List Str) (qual : Str) (scope : Scope) (f : Addr) (cdv : Value) (A : Around) (outer : List Env) (s : Shared) (H : Hp) (E : XK) (p : Addr × Obj) : Cx := cxH (L2.CX P w) P w K mg base N qual scope f cdv A outer s H E p
theorem fnP_ok (F : FunD K x qual params body scope dvs kws f fd) (S : FnScope N ps scope) {as : ι → List Sl} {Φ : ι → Pt β} {Φb : ι → Pt (Out Unit Empty β)} (hl : ∀ y, (as y).length = ps.length)
    (hb : ∀ (y : ι) (cdv : Value) (A : Around) (outer : List Env) (s : Shared) (H G : Hp) (E : XK) (p : Addr × Obj), RoomH k (A.deeper (envOfC qual scope s.heap.objs.size f cdv)) →
      ∃ tb, JB (Cp P w K mg base N qual scope f cdv A outer s H E p) (Cc rs0 G H E) body (as y ++ List.replicate (N.length - ps.length) .no) (fun _ : Unit => List.replicate N.length .no) (fun z : Empty => nomatch z) i tb (Φb y))
    (hΦ : ∀ y post ep, Φ y post ep → Φb y (endP False post) ep) : FnP P w K mg base (k + 1) f fd ps (spOf K rs0 as i Φ) := by
  obtain ⟨oc, od, dV, kV, doc, pm, an, cdv, ct, osl, rfl, lk, hcd, _, _⟩ := F.ex
  have len : ∀ vs H Q E, spOf K rs0 as i Φ vs H Q E → vs.length = ps.length := fun vs H Q E ⟨G, y, post, ep, _, ha, _⟩ => ha.len.trans (hl y)
  refine ⟨len, fun A outer s H args us vs Q E p hr hpin e0 hbd r hsp => ?_⟩
  have hvl := len _ _ _ _ hsp
  obtain ⟨G, y, post, ep, wd, ha, φ, hq, hx⟩ := hsp
  have KX : K.In s.heap := e0.mod.kin.keeps fun b o e => (e0.bs b o e).1
  have hk : ∀ z ∈ ps.zip us, scope.names.lookup z.1 = some .local ∨ (scope.names.lookup z.1 = some .cell ∧ ((cellsFrom (s.heap.objs.size + 1) scope.names []).lookup z.1).isSome = true) := fun z hz =>
    (S.par z.1 (List.of_mem_zip hz).1).imp id fun q => ⟨q, PySem.W.cellsFrom_some _ _ _ (.inl q)⟩
  refine codeAny_call_function hr.depth (KX _ _ lk) rfl S.co S.gen rfl (PySem.W.codeRec_of KX hcd) (hbd _ _ _ _ (wpAny_newFunctionEnv_cells S.kind hk fun env he s1 xx => ?_))
  subst he
  refine ⟨(e0.mod.nolimit.keeps fun b o e => (e0.bs b o e).1).keeps xx.toInCall.keep, codeAny_func ?_⟩
  obtain ⟨tb, J⟩ := hb y cdv A outer s H G E p (hr.deeper _)
  have I : Inv (Cp P w K mg base N qual scope f cdv A outer s H E p) [] (L2.start N vs) H s1 := inv_startH S hpin e0 hvl r xx
  have en : En K rs0 H G H (L2.start N vs) (as y ++ List.replicate (N.length - ps.length) .no) := by
    have z := en_args (rs := rs0) (H0 := H) (H := H) ha (N.length - ps.length)
    unfold L2.start
    rwa [show N.length - vs.length = N.length - ps.length by rw [hvl]]
  have run := J.sem _ _ (hΦ y post ep φ) G H _ (Gr.refl wd) en { nx := fun _ _ => False, rt := Q } ⟨fun _ _ _ _ _ _ _ p => p.elim, fun G' H' v b g _ r p => hq G' H' v b g r p, fun _ _ _ _ _ _ _ p => p.elim, fun _ _ _ _ _ _ _ p => p.elim⟩ fun G' H' σ' cls d e g r p => hx G' H' cls d e g r p
  refine wpAny_mono (J.pe.run [] s1 _ H _ I run) (fun fl s' hs => ?_) fun e s' hs => hs
  cases fl with
  | ret u =>
    obtain ⟨v, σ', H', J', rv, q⟩ := hs
    exact ⟨v, H', J'.os, J'.bare, J'.base, J'.hok, rv, q⟩
  | next => obtain ⟨_, _, _, q⟩ := hs; exact False.elim q
  | brk => obtain ⟨_, _, _, q⟩ := hs; exact False.elim q
  | cont => obtain ⟨_, _, _, q⟩ := hs; exact False.elim q
end
section
variable {X : Cx} {c : Cn} {ρ : List Sl} {a : Addr} {oe : Obj} {pn : List (Addr × Obj)} {β ι : Type} {i : Rp β} {as : ι → List Sl} {Φr : Pt ι} {Φ : ι → Pt β} {k : Nat} {f : Addr} {fd : FuncData} {ps : List Str} {x : Str} {p pos : Pos} {e : Expr} {es : List Expr} {t : TA}
theorem e_callP (F : FnP X.prog X.w X.K X.mg X.base k f fd ps (spOf X.K rs0 as i Φ)) (hr : RoomH k X.A) (hm : X.mg x = some (.ref f)) (hk : PySem.W.keepIn X.K (.ref f) = true) (hb : Binds X.K fd ps []) (hc : c.wsh = fun _ _ _ _ => False)
    (ha : JA (Xs X a oe pn) c (e :: es) ρ as t Φr) (hg : Gl X x := by rfl) (hdb : (x == ("__debug__" : Str)) = false := by decide) (he : starEach (e :: es) X.env = (false, eval e X.env) :: starEach es X.env := by rfl) (hpl : (backTo pos (starEach es X.env)).any (·.1) = false := by rfl) :
    JE (Xs X a oe pn) c (.Call (.Name x p) (e :: es) [] pos) ρ i (tCallS (spOf X.K rs0 as i Φ) (fun _ _ _ _ => False) t) (fun post ep => Φr (fun y => Φ y post (fun _ => False)) ep) := by
  refine ⟨⟨fun pins s σ H Q I h => ?_⟩, fun post ep φ G H σ w E Q kk hx => ha.sem _ _ φ G H σ w E _ (fun G1 H1 vs y g1 r1 φ1 => ?_) hx⟩
  · refine wpAny_Call_Name_kw (ld_glob (X := Xs X a oe pn) I hg hm ?_ hdb)
    refine PySem.W.callWith_K (h₀ := X.base) I.ok.mod.kin hk (thn (ha.pe.run pos pins s σ H _ I h) fun us s1 ⟨vs, H1, I1, r, q⟩ => ⟨I1.kIn, ?_⟩) he hpl
    have hl : us.length = ps.length := r.length.symm.trans (F.len _ _ _ _ q)
    have b := hb s1 us I1.kIn (by rw [List.append_nil]; exact hl)
    rw [List.append_nil] at b
    have P1 := I1.pin (a, oe) (List.mem_append_left _ List.mem_cons_self)
    have hpin : PinOk X.stack H1 s1 (a, oe) := ⟨P1.1, P1.2.1, fun hm => (List.mem_cons.mp (I1.stkSub a hm)).elim P1.2.2.1 P1.2.2.2.1, P1.2.2.2.2⟩
    refine wpAny_call (codeAny_mono (F.run (X.A.mark (some (.ref a))) X.stack s1 H1 ⟨us, []⟩ us vs Q _ (a, oe) ⟨hr.dp, hr.un⟩ hpin I1.env0 b r q) fun rr s' hq => ?_)
    cases rr with
    | error er =>
      obtain ⟨_, _, _, _, _, _, _, _, _, _, _, _, z⟩ := hq
      exact z.elim
    | ok fl =>
      cases fl with
      | ret u => exact I1.after hq
      | next => exact False.elim hq
      | brk => exact False.elim hq
      | cont => exact False.elim hq
  · exact ⟨G1, y, post, fun _ => False, g1.w.to0, r1, φ1, fun G' H' v m g r p => kk G' H' v m (g1.trans (g.lift g1.w)) r p, fun _ _ _ _ _ _ _ z => z.elim⟩
end
end Ty

set_option Elab.async false
set_option linter.all false
set_option maxRecDepth 100000
set_option maxHeartbeats 1000000
set_option autoImplicit false
/-! Ty, part Y: tuples of four, own lists: copied, stored, lent -/
namespace Ty
open PySem PySem.Spec PyProof.Rows L2

structure X4 (α β γ δ : Type) where
  x0 : α
  x1 : β
  x2 : γ
  x3 : δ
instance {α β γ δ : Type} [Nonempty α] [Nonempty β] [Nonempty γ] [Nonempty δ] : Nonempty (X4 α β γ δ) := ⟨⟨Classical.choice inferInstance, Classical.choice inferInstance, Classical.choice inferInstance, Classical.choice inferInstance⟩⟩
instance {α : Type} : Nonempty (Tu α) := ⟨⟨[]⟩⟩
abbrev rpX4 {α β γ δ : Type} {i0 : Rp α} {i1 : Rp β} {i2 : Rp γ} {i3 : Rp δ} : Rp (X4 α β γ δ) := ⟨fun K G v m => ∃ a y0 y1 y2 y3, v = .ref a ∧ SqT K G a [y0, y1, y2, y3] ∧ i0.rp K G y0 m.x0 ∧ i1.rp K G y1 m.x1 ∧ i2.rp K G y2 m.x2 ∧ i3.rp K G y3 m.x3, fun x h => by
  obtain ⟨a, y0, y1, y2, y3, h1, h2, h3, h4, h5, h6⟩ := h
  exact ⟨a, y0, y1, y2, y3, h1, x.st h2, i0.mono x h3, i1.mono x h4, i2.mono x h5, i3.mono x h6⟩⟩
theorem four4 {K : Fg} {G : Hp} {vs : List V} {α β γ δ : Type} {i0 : Rp α} {i1 : Rp β} {i2 : Rp γ} {i3 : Rp δ} {m0 : α} {m1 : β} {m2 : γ} {m3 : δ} (h : ArgsOk K G vs [.val i0 m0, .val i1 m1, .val i2 m2, .val i3 m3]) : ∃ v0 v1 v2 v3, vs = [v0, v1, v2, v3] ∧ i0.rp K G v0 m0 ∧ i1.rp K G v1 m1 ∧ i2.rp K G v2 m2 ∧ i3.rp K G v3 m3 := by
  cases h with
  | cons h t =>
    obtain ⟨v1, v2, v3, rfl, h1, h2, h3⟩ := three3 t
    cases h with
    | val h => exact ⟨_, v1, v2, v3, rfl, h, h1, h2, h3⟩
section
variable {X : Cx} {c : Cn} {ρ : List Sl} {α β γ δ : Type} {i0 : Rp α} {i1 : Rp β} {i2 : Rp γ} {i3 : Rp δ} {pos : Pos}
theorem e_tupX4 {e0 e1 e2 e3 : Expr} {k0 : Nat} {t : TA} {Φ : Pt (α × β × γ × δ × Unit)} (h : JA X c [e0, e1, e2, e3] ρ (aCons i0 (aCons i1 (aCons i2 (aCons i3 aNil)))) t Φ) :
    JE X c (.Tuple [e0, e1, e2, e3] k0 pos) ρ (rpX4 (i0 := i0) (i1 := i1) (i2 := i2) (i3 := i3)) (tTup t) (fun post ep => Φ (fun x => post ⟨x.1, x.2.1, x.2.2.1, x.2.2.2.1⟩) ep) := by
  refine ⟨pe_tup h.pe, fun post ep φ G H σ w E Q k hx => h.sem _ _ φ G H σ w E _ (fun G1 H1 vs x g1 r1 p => ?_) hx⟩
  obtain ⟨v0, v1, v2, v3, rfl, h0, h1, h2, h3⟩ := four4 (i0 := i0) (i1 := i1) (i2 := i2) (i3 := i3) r1
  refine ⟨by show 4 ≤ sizeLine; decide, fun q hq => ?_⟩
  have g := gr_new (o := .tup [v0, v1, v2, v3]) g1.w hq
  exact k _ _ _ _ (g1.trans g) ⟨q, v0, v1, v2, v3, rfl, SqT.of upd_same, i0.mono g.g h0, i1.mono g.g h1, i2.mono g.g h2, i3.mono g.g h3⟩ p
theorem ix_X4 {τ : Type} {iτ : Rp τ} (n : Nat) {get : X4 α β γ δ → τ} (hg : ∀ (K : Fg) (G : Hp) (y0 y1 y2 y3 : V) (m : X4 α β γ δ), i0.rp K G y0 m.x0 → i1.rp K G y1 m.x1 → i2.rp K G y2 m.x2 → i3.rp K G y3 m.x3 → ∃ v, atI [y0, y1, y2, y3] (n : Int) = some v ∧ iτ.rp K G v (get m)) :
    IxW X (rpX4 (i0 := i0) (i1 := i1) (i2 := i2) (i3 := i3)) rpI iτ (rIxT X.K) (fun p k post _ => k = n ∧ post (get p)) :=
  ⟨ix_tup, fun rs G H x y a b post ep Q w hx hy φ k => by
    obtain ⟨l, y0, y1, y2, y3, rfl, h1, h2, h3, h4, h5⟩ := hx
    obtain ⟨rfl, p⟩ := φ
    obtain ⟨v, e1, e2⟩ := hg _ _ _ _ _ _ a h2 h3 h4 h5
    exact ⟨l, [y0, y1, y2, y3], _, v, rfl, hy, w.s.st h1, e1, k G H _ _ (Gr.refl w) e2 p⟩⟩
theorem ix_X4_0 : IxW X (rpX4 (i0 := i0) (i1 := i1) (i2 := i2) (i3 := i3)) rpI i0 (rIxT X.K) (fun p k post _ => k = (0 : Nat) ∧ post p.x0) := ix_X4 0 fun _ _ y0 _ _ _ _ h _ _ _ => ⟨y0, rfl, h⟩
theorem ix_X4_1 : IxW X (rpX4 (i0 := i0) (i1 := i1) (i2 := i2) (i3 := i3)) rpI i1 (rIxT X.K) (fun p k post _ => k = (1 : Nat) ∧ post p.x1) := ix_X4 1 fun _ _ _ y1 _ _ _ _ h _ _ => ⟨y1, rfl, h⟩
theorem ix_X4_2 : IxW X (rpX4 (i0 := i0) (i1 := i1) (i2 := i2) (i3 := i3)) rpI i2 (rIxT X.K) (fun p k post _ => k = (2 : Nat) ∧ post p.x2) := ix_X4 2 fun _ _ _ _ y2 _ _ _ _ h _ => ⟨y2, rfl, h⟩
theorem ix_X4_3 : IxW X (rpX4 (i0 := i0) (i1 := i1) (i2 := i2) (i3 := i3)) rpI i3 (rIxT X.K) (fun p k post _ => k = (3 : Nat) ∧ post p.x3) := ix_X4 3 fun _ _ _ _ _ y3 _ _ _ _ h => ⟨y3, rfl, h⟩
/-- a pair of numbers, seen as a tuple -/
theorem up2 {α : Type} {i : Rp α} : UpW (rp2 (i := i) (j := i)) (rpT (i := i)) (fun p : α × α => (⟨[p.1, p.2]⟩ : Tu α)) := fun K G v m h => by
  obtain ⟨a, x, y, rfl, h1, h2, h3⟩ := h
  exact ⟨a, [x, y], rfl, h1, .cons h2 (.cons h3 .nil), by show 2 ≤ sizeLine; decide⟩
end

/-! ### own lists -/
def setN {α : Type} (xs : List α) (k : Int) (m : α) : List α := match ixN xs.length k with
  | some n => xs.set n m
  | none => xs
section
variable {X : Cx} {c : Cn} {ρ : List Sl} {S L β α : Type} {out : S → List Sl} {lp : L → List Sl} {i : Rp β} {iα : Rp α} {pos : Pos} {rest : List Stmt} {tr : TS} {e : Expr} {te : TE}
theorem fresh0 {c : Cn} {G H : Hp} {p : Addr} (g : Gr c.rs c.G0 c.H0 G H) (hp : H p = none) : c.H0 p = none ∧ G p = none := by
  constructor
  · by_cases q : c.H0 p = none
    · exact q
    · exact absurd hp (g.t p q)
  · cases e : G p with
    | none => rfl
    | some u =>
      have z := g.w.s p u e
      rw [hp] at z
      cases z
theorem rpAll_set {α : Type} {iα : Rp α} {K : Fg} {G : Hp} : ∀ {vs : List V} {ms : List α} (n : Nat) {v : V} {m : α}, RpAll iα K G vs ms → iα.rp K G v m → RpAll iα K G (vs.set n v) (ms.set n m)
  | _, _, _, _, _, .nil, _ => .nil
  | _, _, 0, _, _, .cons _ t, r => .cons r t
  | _, _, n + 1, _, _, .cons a t, r => .cons a (rpAll_set n t r)
/-- x = list(e), e a tuple: x is an own list -/
theorem b_newT [Nonempty α] (j : Nat) {x : Str} {px p1 p2 : Pos} {Φe : Pt (Tu α)} {Φr : Tu α → Pt (Out S L β)} (hN : X.N.Nodup) (hm : X.mg "list" = none) (he : JE X c e ρ (rpT (i := iα)) te Φe) (hr : ∀ m, JB X c rest (ρ.set j (.ml iα m.l)) out lp i tr (Φr m)) (hj : X.N[j]? = some x := by rfl) (hx : Loc X.env.scope x := by first | exact Or.inl rfl | exact Or.inr rfl)
    (hs : swapsWith (.Call (.Name "list" p1) [e] [] p2) (some (.Name x px)) pos.line X.env = pure false := by rfl) (hf : X.fn x = true ∨ X.env.scope.names.lookup x = some .local := by first | exact .inl rfl | exact .inr rfl) (hbv : bootBuiltins "list" = some (.type "list") := by decide +kernel) (hg : Gl X "list" := by rfl)
    (hst : starEach [e] X.env = (false, eval e X.env) :: starEach [] X.env := by rfl) :
    JB X c (.Assign [.Name x px] (.Call (.Name "list" p1) [e] [] p2) pos :: rest) ρ out lp i (tSeq (tAsg (tCB (rListOf X.K) (tCons te tNil)) (gName j)) tr) (fun post ep => Φe (fun m => Φr m post ep) ep) := by
  refine ⟨pss_cons (ps_set hN hj hx (pe_callTy call_list_of hg hm hbv (pa_cons he.pe pa_nil hst) (by decide) (by decide) hst) hs hf) (hr (Classical.choice inferInstance)).pe, fun post ep φ G H σ g E D k hx => ?_⟩
  refine he.sem _ _ φ G H σ g.w E _ (fun G1 H1 v m g1 r p => ?_) (hx.at g)
  obtain ⟨a, vs, rfl, h1, h2, h3⟩ := r
  refine ⟨a, vs, rfl, .inr (g1.w.s.st h1), fun l hl => ?_⟩
  have gn := gr_newH (o := .lst vs) g1.w hl
  obtain ⟨z1, z2⟩ := fresh0 (g.trans g1) hl
  refine (hr m).sem _ _ p G1 _ _ ((g.trans g1).trans gn) (((E.up g1).up gn).setOwn (x := .ml iα m.l) ⟨l, vs, rfl, upd_same, h2, z1, z2, not_new g1.w hl⟩ fun q y _ ey oy sy => ?_) D (k.up g1.g) hx
  exact absurd hl ((E.up g1).own_some ey oy sy)
/-- x[k] = e, x an own list -/
theorem b_setM [Nonempty α] {xs : List α} (j : Nat) {x : Str} {px pa : Pos} {ek : Expr} {tk : TE} {Φk : Pt Int} {Φe : Pt α} {Φr : α → Int → Pt (Out S L β)} (hρ : ρ[j]? = some (.ml iα xs)) (he : JE X c e ρ iα te Φe) (hk : JE X c ek ρ rpI tk Φk) (hr : ∀ m k, JB X c rest (ρ.set j (.ml iα (setN xs k m))) out lp i tr (Φr m k)) (hN : X.N[j]? = some x := by rfl)
    (hv : Vis X.env.scope x := by first | exact Or.inl rfl | exact Or.inr (Or.inl rfl) | exact Or.inr (Or.inr rfl)) (hd : (x == ("__debug__" : Str)) = false := by decide) (hcd : (x == ("__classdict__" : Str)) = false := by decide)
    (ha : ∀ v, assign (.Subscript (.Name x px) ek pa) X.env v = (do
      let ov ← holding [v] (eval (.Name x px) X.env)
      let iv ← holding [v, ov] (eval ek X.env)
      standAt pa
      holding [v, ov, iv] (setItem ov iv v)
      release [v, ov, iv] []) := by intro _; rfl)
    (hs : swapsWithSole [.Subscript (.Name x px) ek pa] e pos.line X.env = pure false := by rfl) (hw : swappedStores [.Subscript (.Name x px) ek pa] e X.env = pure none := by rfl)
    (hE : (assignEach [.Subscript (.Name x px) ek pa] X.env).map (·.2) = [assign (.Subscript (.Name x px) ek pa) X.env] := by rfl) :
    JB X c (.Assign [.Subscript (.Name x px) ek pa] e pos :: rest) ρ out lp i (tSeq (tAsg te (gSub (tVar j) tk rSetL)) tr) (fun post ep => Φe (fun m => Φk (fun k => (ixN xs.length k).isSome = true ∧ Φr m k post ep) ep) ep) := by
  refine ⟨pss_cons (ps_asg he.pe (pg_sub (pe_var hN hv hd hcd) hk.pe set_list ha) hs hw hE) (hr (Classical.choice inferInstance) 0).pe, fun post ep φ G H σ g E D kk hx => ?_⟩
  refine he.sem _ _ φ G H σ g.w E _ (fun G1 H1 v m g1 r p => ?_) (hx.at g)
  obtain ⟨l, vs, h1, _⟩ := (E.up g1).ok j _ hρ
  refine ⟨.ref l, h1, hk.sem _ _ p G1 H1 σ g1.w (E.up g1) _ (fun G2 H2 v2 k g2 r2 p2 => ?_) ((hx.at g).up g1)⟩
  obtain ⟨p3, p4⟩ := p2
  obtain ⟨n, hn⟩ := Option.isSome_iff_exists.mp p3
  have g12 := g1.trans g2
  obtain ⟨l', vs', h1', h2', h3', h4', h5', h6'⟩ := (E.up g12).ok j _ hρ
  rw [h1] at h1'
  cases h1'
  have hlen := h3'.length
  refine ⟨l, vs', k, n, rfl, r2, h2', by rw [hlen]; exact hn, ?_⟩
  have gm := gr_mut (o := .lst (vs'.set n v)) (g.trans g12) h4' h5' h6' (some_ne h2')
  have es : ∀ a, c.rs.S H2 a → upd H2 l (.lst (vs'.set n v)) a = H2 a := fun a ha => upd_ne fun z => h6' (z ▸ ha)
  have e1 : setN xs k m = xs.set n m := by
    unfold setN
    rw [hn]
  refine (hr m k).sem _ _ p4 G2 _ σ gm ((E.up g12).mut g2.w hρ rfl h1 h2' h6' (fun a z => by cases z) (x := .ml iα (setN xs k m)) ⟨l, vs'.set n v, rfl, upd_same, e1 ▸ rpAll_set n h3' (iα.mono g2.g r), h4', h5', fun z => h6' (((c.rs.loc g2.w.i es).2 l).mp z)⟩) D (kk.up g12.g) hx
end

section
variable {X : Cx} {c : Cn} {ρ : List Sl} {S L β α : Type} {out : S → List Sl} {lp : L → List Sl} {i : Rp β} {iα : Rp α} {pos : Pos} {rest : List Stmt} {tr : TS} {e : Expr} {te : TE}
/-- x.append(e): the call is looked at here -/
theorem b_app1 {xs : List α} (j : Nat) {x : Str} {px pa pc : Pos} {Φe : Pt α} {Φr : α → Pt (Out S L β)} (hρ : ρ[j]? = some (.ml iα xs)) [Nonempty α] (he : JE X c e ρ iα te Φe) (hr : ∀ m, JB X c rest (ρ.set j (.ml iα (xs ++ [m]))) out lp i tr (Φr m)) (hN : X.N[j]? = some x := by rfl)
    (hv : Vis X.env.scope x := by first | exact Or.inl rfl | exact Or.inr (Or.inl rfl) | exact Or.inr (Or.inr rfl)) (hd : (x == ("__debug__" : Str)) = false := by decide) (hcd : (x == ("__classdict__" : Str)) = false := by decide)
    (hs : swapsWith (.Call (.Attribute (.Name x px) "append" pa) [e] [] pc) none pos.line X.env = pure false := by rfl) (hbase : attributeBase (.Name x px) "append" X.env (eval (.Name x px) X.env) = eval (.Name x px) X.env := by rfl)
    (hfew : ((backTo pc (starEach [e] X.env)).all (fun x => !x.1) && (backToKw pc (keywordEach [] X.env)).all (fun x => x.1.isSome) && decide (([e] : List Expr).length + ([] : List Keyword).length + (if ([] : List Keyword).isEmpty then 0 else 1) < 30)) = true := by rfl)
    (hline : (pa.endLine == pc.line) = true := by rfl) (hst : starEach [e] X.env = (false, eval e X.env) :: starEach [] X.env := by rfl) :
    JB X c (.Expr (.Call (.Attribute (.Name x px) "append" pa) [e] [] pc) pos :: rest) ρ out lp i (tSeq (tDrop (tBM X.K "list" rAppend (tVar j) (tCons te tNil))) tr) (fun post ep => Φe (fun m => xs.length < sizeLine ∧ Φr m post ep) ep) :=
  b_app j hρ he hr (pe_bm PySem.F.plainAttrs_list PySem.F.slot_list_append PySem.F.type_list_append mt_append (pe_var hN hv hd hcd) (pa_cons he.pe pa_nil hst) hbase hfew hline hst rfl) hs
end

/-! ### an own list is lent: the result knows nothing of it -/
def hideH (l : Addr) (G : Hp) : Hp := fun a => if a = l then none else G a
theorem hide_ne {l a : Addr} {G : Hp} (h : a ≠ l) : hideH l G a = G a := if_neg h
theorem hide_eq {l : Addr} {G : Hp} : hideH l G l = none := if_pos rfl
/-- what is represented holds no list -/
class NoL (α : Type) (i : Rp α) : Prop where
  hide : ∀ {K : Fg} {G : Hp} {v : V} {m : α} {l : Addr} {vs : List V}, G l = some (.lst vs) → i.rp K G v m → i.rp K (hideH l G) v m
instance : NoL Int rpI := ⟨fun _ h => h⟩
instance : NoL Bool rpB := ⟨fun _ h => h⟩
instance : NoL Str rpS := ⟨fun _ h => h⟩
instance : NoL Unit rpN := ⟨fun _ h => h⟩
theorem sqT_hide {K : Fg} {G : Hp} {a l : Addr} {xs vs : List V} (h : G l = some (.lst vs)) (q : SqT K G a xs) : SqT K (hideH l G) a xs := by
  rcases q with (q | ⟨o, q⟩) | q
  · exact .inl (.inl (by rw [hide_ne fun z => by rw [z, h] at q; cases q]; exact q))
  · exact .inl (.inr ⟨o, by rw [hide_ne fun z => by rw [z, h] at q; cases q]; exact q⟩)
  · exact .inr q
instance {α β : Type} {i : Rp α} {j : Rp β} [n1 : NoL α i] [n2 : NoL β j] : NoL (α × β) (rp2 (i := i) (j := j)) := ⟨fun h r => by
  obtain ⟨a, x, y, h1, h2, h3, h4⟩ := r
  exact ⟨a, x, y, h1, sqT_hide h h2, n1.hide h h3, n2.hide h h4⟩⟩
instance {α : Type} {i : Rp α} [n : NoL α i] : NoL (Tu α) (rpT (i := i)) := ⟨fun h r => by
  obtain ⟨a, vs, h1, h2, h3, h4⟩ := r
  exact ⟨a, vs, h1, sqT_hide h h2, Paired.mapP h3 fun _ _ q => n.hide h q, h4⟩⟩
theorem gr_lend {G H G' H' : Hp} {l : Addr} {vs : List V} (w : Wd rs0 G H) (hg : G l = none) (hl : H l = some (.lst vs)) (g : Gr rs0 (upd G l (.lst vs)) H G' H') : Gr rs0 G H (hideH l G') H' := by
  have x1 : ∀ a o, G a = some o → a ≠ l := fun a o e z => by rw [z, hg] at e; cases e
  refine ⟨fun a o e => ?_, g.h, g.t, fun a h1 h2 => ?_, g.f, ⟨fun a o e => ?_, trivial, fun _ z => z.elim⟩⟩
  · rw [hide_ne (x1 a o e)]
    exact g.g a o (by rw [upd_ne (x1 a o e)]; exact e)
  · by_cases z : a = l
    · rw [z, hide_eq]
    · rw [hide_ne z]
      exact g.n a h1 (by rw [upd_ne z]; exact h2)
  · by_cases z : a = l
    · rw [z, hide_eq] at e
      cases e
    · rw [hide_ne z] at e
      exact g.w.s a o e
theorem wd_lend {G H : Hp} {l : Addr} {vs : List V} (w : Wd rs0 G H) (hl : H l = some (.lst vs)) : Wd rs0 (upd G l (.lst vs)) H := ⟨fun a o e => by
  by_cases z : a = l
  · rw [z, upd_same] at e
    rw [z, ← e]
    exact hl
  · rw [upd_ne z] at e
    exact w.s a o e, trivial, fun _ z => z.elim⟩
section
variable {X : Cx} {c : Cn} {ρ : List Sl} {α β γ : Type} {iα : Rp α} {iβ : Rp β} {iγ : Rp γ} {pos p px : Pos} {k : Nat} {f : Addr} {fd : FuncData} {ps : List Str} {x y : Str} {e : Expr} {te : TE}
/-- f(e, y), y an own list that f does not keep -/
theorem e_callL [nl : NoL γ iγ] {xs : List β} {Φe : Pt α} {Φ : α × List β × Unit → Pt γ} (j : Nat) (hρ : ρ[j]? = some (.ml iβ xs)) (F : FnOk X.prog X.w X.K X.mg X.base (L2.CX X.prog X.w) k f fd ps (spOf X.K rs0 (aCons iα (aCons (rpL (i := iβ)) aNil)) iγ Φ)) (hr : Room k X.A) (hm : X.mg x = some (.ref f)) (hk : PySem.W.keepIn X.K (.ref f) = true) (hb : Binds X.K fd ps []) (tk : Takes X c.wsh)
    (he : JE X c e ρ iα te Φe) (hN : X.N[j]? = some y := by rfl) (hv : Vis X.env.scope y := by first | exact Or.inl rfl | exact Or.inr (Or.inl rfl) | exact Or.inr (Or.inr rfl)) (hd : (y == ("__debug__" : Str)) = false := by decide) (hcd : (y == ("__classdict__" : Str)) = false := by decide)
    (hg : Gl X x := by rfl) (hdb : (x == ("__debug__" : Str)) = false := by decide) (hst : starEach [e, .Name y px] X.env = (false, eval e X.env) :: starEach [.Name y px] X.env := by rfl) (hst2 : starEach [.Name y px] X.env = (false, eval (.Name y px) X.env) :: starEach [] X.env := by rfl) (hpl : (backTo pos (starEach [.Name y px] X.env)).any (·.1) = false := by rfl) :
    JE X c (.Call (.Name x p) [e, .Name y px] [] pos) ρ iγ (tCallS (spOf X.K rs0 (aCons iα (aCons (rpL (i := iβ)) aNil)) iγ Φ) (fun σ => L2.WE c.wsh σ) (tCons te (tCons (tVar j) tNil))) (fun post ep => Φe (fun m => xs.length ≤ sizeLine ∧ Φ (m, xs, ()) post (fun _ => False)) ep) := by
  refine ⟨pe_callS F hr hg hm hk hb (fun σ => passAt tk σ) (pa_cons he.pe (pa_cons (pe_var hN hv hd hcd) pa_nil hst2) hst) hdb hst hpl, fun post ep φ G H σ w E Q kk hx => he.sem _ _ φ G H σ w E _ (fun G1 H1 v m g1 r1 p1 => ?_) hx⟩
  obtain ⟨pz, p1⟩ := p1
  obtain ⟨l, vs, h1, h2, h3, h4, h5, h6⟩ := (E.up g1).ok j _ hρ
  have w0 := g1.w.to0
  have xe : Ex G1 (upd G1 l (.lst vs)) := Ex.new h5
  refine ⟨.ref l, h1, ?_⟩
  refine ⟨upd G1 l (.lst vs), (m, xs, ()), post, fun _ => False, wd_lend w0 h2, .cons (.val (iα.mono xe r1)) (.cons (.val ⟨l, vs, rfl, upd_same, h3.mono xe, by rw [h3.length]; exact pz⟩) .nil), p1, fun G' H' v' m' g r p => ?_, fun _ _ _ _ _ _ _ z => z.elim⟩
  have gl := gr_lend w0 h5 h2 g
  exact kk _ H' v' m' (g1.trans (gl.lift g1.w)) (nl.hide (g.g l _ upd_same) r) p
/-- an own list compared with a value -/
theorem t_cmpM {op : CmpOp} {xs : List β} {b : Expr} {tb : TE} {Φb : Pt α} {r : R2} {Φ : List β → α → Pt Bool} (j : Nat) (hρ : ρ[j]? = some (.ml iβ xs)) (ho : OpW X (compareOp op) (rpL (i := iβ)) iα rpB r Φ) (hb : JE X c b ρ iα tb Φb) (hm : behindInMarks op b = false) (hN : X.N[j]? = some y := by rfl) (hv : Vis X.env.scope y := by first | exact Or.inl rfl | exact Or.inr (Or.inl rfl) | exact Or.inr (Or.inr rfl))
    (hd : (y == ("__debug__" : Str)) = false := by decide) (hcd : (y == ("__classdict__" : Str)) = false := by decide) : JT X c (.Compare (.Name y px) [op] [b] pos) ρ (tTest (tOp r (tVar j) tb)) (fun post ep => Φb (fun z => xs.length ≤ sizeLine ∧ Φ xs z post ep) ep) := by
  refine ⟨pt_cmpR ho.pe (pe_var hN hv hd hcd) hb.pe hm, fun post ep φ G H σ w E Q kk hx => ?_⟩
  obtain ⟨l, vs0, h1, _⟩ := E.ok j _ hρ
  refine ⟨.ref l, h1, hb.sem _ _ φ G H σ w E _ (fun G1 H1 v m g1 r1 p1 => ?_) hx⟩
  obtain ⟨pz, p1⟩ := p1
  obtain ⟨l', vs, h1', h2, h3, h4, h5, h6⟩ := (E.up g1).ok j _ hρ
  rw [h1] at h1'
  cases h1'
  have w0 := g1.w.to0
  have xe : Ex G1 (upd G1 l (.lst vs)) := Ex.new h5
  refine ho.sem rs0 _ H1 (.ref l) v xs m post ep _ (wd_lend w0 h2) ⟨l, vs, rfl, upd_same, h3.mono xe, by rw [h3.length]; exact pz⟩ (iα.mono xe r1) p1 fun G' H' z b g rb pb => ?_
  exact ⟨b, rb, kk _ H' b (g1.trans ((gr_lend w0 h5 h2 g).lift g1.w)) pb⟩
end
end Ty

set_option Elab.async false
set_option linter.all false
set_option maxRecDepth 100000
set_option maxHeartbeats 1000000
set_option autoImplicit false
/-! Bg: the bag [[numbers], number, ..] of a law as a resource; N numbers -/
namespace Ty
open PySem PySem.Spec PyProof.Rows L2

/-- a new bag, known for good -/
abbrev rpBg (N : Nat) : Rp Unit := ⟨fun K G v _ => ∃ (p l : Addr) (is ns : List Int), v = .ref p ∧ is.length = N ∧ G p = some (.lst (.ref l :: is.map V.int)) ∧ G l = some (.lst (ns.map V.int)), fun e h => by
  obtain ⟨p, l, is, ns, h1, h2, h3, h4⟩ := h
  exact ⟨p, l, is, ns, h1, h2, e _ _ h3, e _ _ h4⟩⟩
theorem e_bg2 {X : Cx} {c : Cn} {ρ : List Sl} {es : List Expr} {t : TA} {pos : Pos} {Φ : Pt (List Int × Int × Int × Unit)} (h : JA X c es ρ (aCons (rpL (i := rpI)) (aCons rpI (aCons rpI aNil))) t Φ) : JE X c (.List es pos) ρ (rpBg 2) (tLst t) (fun post ep => Φ (fun _ => post ()) ep) := by
  refine ⟨pe_lst h.pe, fun post ep φ G H σ w E Q k hx => h.sem _ _ φ G H σ w E _ (fun G1 H1 vs x g1 r1 p => ?_) hx⟩
  obtain ⟨xl, x1, x2, u⟩ := x
  obtain ⟨v, v1, v2, rfl, a, rfl, rfl⟩ := three3 (i := rpL (i := rpI)) (j := rpI) (k := rpI) r1
  obtain ⟨l, ws, rfl, e1, e2, e3⟩ := a
  rw [ints_of e2] at e1
  refine ⟨by show 3 ≤ sizeLine; decide, fun q hq => ?_⟩
  have g := gr_new (o := .lst [.ref l, .int x1, .int x2]) g1.w hq
  exact k _ _ _ _ (g1.trans g) ⟨q, l, [x1, x2], xl, rfl, rfl, upd_same, g.g _ _ e1⟩ p

/-! ### the resource -/
def bgI (N : Nat) (q : Addr) (H : Hp) : Prop := ∃ (l : Addr) (is ns : List Int), is.length = N ∧ H q = some (.lst (.ref l :: is.map V.int)) ∧ H l = some (.lst (ns.map V.int))
def rsG (N : Nat) (q : Addr) : Rs := ⟨bxS q, bgI N q, by
  intro H H' i k
  obtain ⟨l, is, ns, h0, h1, h2⟩ := i
  have e1 : H' q = H q := k q (.inl rfl)
  have e2 : H' l = H l := k l (.inr ⟨_, h1⟩)
  refine ⟨⟨l, is, ns, h0, e1.trans h1, e2.trans h2⟩, fun a => ?_⟩
  unfold bxS
  rw [e1], by
  intro H a i s
  obtain ⟨l, is, ns, h0, h1, h2⟩ := i
  rcases s with rfl | ⟨t, s⟩
  · exact some_ne h1
  · rw [h1] at s
    cases s
    exact some_ne h2⟩
theorem gr_bg {N : Nat} {q l : Addr} {G H H' : Hp} {is ns : List Int} (w : Wd (rsG N q) G H) (hN : is.length = N) (hq : H' q = some (.lst (.ref l :: is.map V.int))) (hl : H' l = some (.lst (ns.map V.int))) (hn : bxS q H l)
    (keep : ∀ a o, a ≠ q → a ≠ l → H a = some o → H' a = some o) : Gr (rsG N q) G H G H' := by
  have nG : ∀ a, bxS q H a → G a = none := fun a h => w.n a h
  have fS : ∀ a, bxS q H' a → bxS q H a := fun a s => by
    rcases s with rfl | ⟨t, s⟩
    · exact .inl rfl
    · rw [hq] at s
      cases s
      exact hn
  refine ⟨Ex.refl _, fun a o hs e => keep a o (fun z => hs (.inl z)) (fun z => hs (z ▸ hn)) e, fun a e => ?_, fun a _ h => h, fun a s => .inl (fS a s), ⟨fun a o e => ?_, ⟨l, is, ns, hN, hq, hl⟩, fun a s => nG a (fS a s)⟩⟩
  · by_cases z : a = q
    · rw [z]
      exact some_ne hq
    · by_cases y : a = l
      · rw [y]
        exact some_ne hl
      · cases e2 : H a with
        | none => exact absurd e2 e
        | some o => exact some_ne (keep a o z y e2)
  · refine keep a o (fun z => ?_) (fun z => ?_) (w.s a o e)
    · rw [z, nG q (.inl rfl)] at e
      cases e
    · rw [z, nG l hn] at e
      cases e
theorem ixNn {n k : Nat} (h : k < n) : ixN n (k : Int) = some k := by
  unfold ixN
  rw [if_pos (Int.natCast_nonneg k), if_pos (by omega)]
  simp
theorem atI_cons {α : Type} {x : α} {xs : List α} {k : Nat} {y : α} (h : xs[k]? = some y) : atI (x :: xs) ((k + 1 : Nat) : Int) = some y := by
  have hk := (List.getElem?_eq_some_iff.mp h).1
  unfold atI
  rw [ixNn (by rw [List.length_cons]; omega)]
  simpa using h
section
variable {X : Cx} {c : Cn} {ρ : List Sl} {q : Addr} {x : Str} {px pk pos : Pos} {N : Nat}
/-- bag[k], a number -/
theorem e_bgI {k : Nat} {jj : Nat} (j : Nat) (hc : c.rs = rsG N q) (hρ : ρ[j]? = some (.rf q)) (hk : k < N) (hN : X.N[j]? = some x := by rfl) (hv : Vis X.env.scope x := by first | exact Or.inl rfl | exact Or.inr (Or.inl rfl) | exact Or.inr (Or.inr rfl))
    (hd : (x == ("__debug__" : Str)) = false := by decide) (hcd : (x == ("__classdict__" : Str)) = false := by decide) (hs : PlainIxT (.Constant (.int ((k + 1 : Nat) : Int)) jj pk) := by exact fun _ _ => rfl) : JE X c (.Subscript (.Name x px) (.Constant (.int ((k + 1 : Nat) : Int)) jj pk) pos) ρ rpI (tOp (rIxL X.K) (tVar j) (tC (.int ((k + 1 : Nat) : Int)))) (fun post _ => ∀ n : Int, post n) := by
  refine ⟨pe_ix ix_list (pe_var hN hv hd hcd) pe_int hs, fun post ep φ G H σ w E Q kk hx => ?_⟩
  have I := w.i
  rw [hc] at I
  obtain ⟨l, is, ns, h0, h1, h2⟩ := I
  obtain ⟨n, hn⟩ : ∃ n, is[k]? = some n := ⟨_, List.getElem?_eq_getElem (by rw [h0]; exact hk)⟩
  exact ⟨.ref q, E.ok j _ hρ, q, _, ((k + 1 : Nat) : Int), .int n, rfl, rfl, SqL.of h1, atI_cons (by rw [List.getElem?_map, hn]; rfl), kk G H _ n (Gr.refl w) rfl (φ n)⟩
variable {S L β : Type} {out : S → List Sl} {lp : L → List Sl} {i : Rp β} {rest : List Stmt} {tr : TS} {e : Expr} {te : TE} {Φe : Pt Int} {Φr : Pt (Out S L β)} {ps : Pos}
theorem b_bgSet {k : Nat} {jj : Nat} (j : Nat) (hc : c.rs = rsG N q) (hρ : ρ[j]? = some (.rf q)) (hk : k < N) (he : JE X c e ρ rpI te Φe) (hr : JB X c rest ρ out lp i tr Φr) (hN : X.N[j]? = some x := by rfl) (hv : Vis X.env.scope x := by first | exact Or.inl rfl | exact Or.inr (Or.inl rfl) | exact Or.inr (Or.inr rfl))
    (hd : (x == ("__debug__" : Str)) = false := by decide) (hcd : (x == ("__classdict__" : Str)) = false := by decide)
    (ha : ∀ v, assign (.Subscript (.Name x px) (.Constant (.int ((k + 1 : Nat) : Int)) jj pk) pos) X.env v = (do
      let ov ← holding [v] (eval (.Name x px) X.env)
      let iv ← holding [v, ov] (eval (.Constant (.int ((k + 1 : Nat) : Int)) jj pk) X.env)
      standAt pos
      holding [v, ov, iv] (setItem ov iv v)
      release [v, ov, iv] []) := by intro _; rfl)
    (hs : swapsWithSole [.Subscript (.Name x px) (.Constant (.int ((k + 1 : Nat) : Int)) jj pk) pos] e ps.line X.env = pure false := by rfl) (hw : swappedStores [.Subscript (.Name x px) (.Constant (.int ((k + 1 : Nat) : Int)) jj pk) pos] e X.env = pure none := by rfl)
    (hE : (assignEach [.Subscript (.Name x px) (.Constant (.int ((k + 1 : Nat) : Int)) jj pk) pos] X.env).map (·.2) = [assign (.Subscript (.Name x px) (.Constant (.int ((k + 1 : Nat) : Int)) jj pk) pos) X.env] := by rfl) :
    JB X c (.Assign [.Subscript (.Name x px) (.Constant (.int ((k + 1 : Nat) : Int)) jj pk) pos] e ps :: rest) ρ out lp i (tSeq (tAsg te (gSub (tVar j) (tC (.int ((k + 1 : Nat) : Int))) rSetL)) tr) (fun post ep => Φe (fun _ => Φr post ep) ep) := by
  refine ⟨pss_cons (ps_asg he.pe (pg_sub (pe_var hN hv hd hcd) pe_int set_list ha) hs hw hE) hr.pe, fun post ep φ G H σ g E D kk hx => ?_⟩
  refine he.sem _ _ φ G H σ g.w E _ (fun G1 H1 v m g1 r p => ?_) (hx.at g)
  obtain rfl : v = .int m := r
  have w1 : Wd (rsG N q) G1 H1 := hc ▸ g1.w
  obtain ⟨l, is, ns, h0, h1, h2⟩ := w1.i
  have lq : l ≠ q := fun z => by
    rw [z, h1] at h2
    have h3 := HO.lst.inj (Option.some.inj h2)
    cases ns with
    | nil => cases h3
    | cons n ns => cases h3
  have eset : (V.ref l :: is.map V.int).set (k + 1) (.int m) = V.ref l :: (is.set k m).map V.int := by rw [List.set_cons_succ, List.map_set]
  have gb : Gr c.rs G1 H1 G1 (upd H1 q (.lst (V.ref l :: (is.set k m).map V.int))) := hc ▸ gr_bg (l := l) (ns := ns) w1 (by rw [List.length_set]; exact h0) upd_same (by rw [upd_ne lq]; exact h2) (.inr ⟨_, h1⟩) (fun u o z _ e => by rw [upd_ne z]; exact e)
  refine ⟨.ref q, E.ok j _ hρ, q, _, ((k + 1 : Nat) : Int), k + 1, rfl, rfl, h1, ixNn (by rw [List.length_cons, List.length_map]; omega), ?_⟩
  rw [eset]
  exact hr.sem _ _ p _ _ σ ((g.trans g1).trans gb) (E.up (g1.trans gb)) D (kk.up (g1.trans gb).g) hx
/-! ### great = bag[0]; if great: a digit of its first number -/
def tBg (K : Fg) : TS := tSeq (tAsg (tOp (rIxL K) (tVar 0) (tC (.int 0))) (gName 2)) (tSeq (tIfS (fun σ H Q => tVar 2 σ H fun x H' => ∃ k, TruV K x H' k ∧ Q k H')
  (tSeq (tAsg (tOp (rI (fun _ j => 0 < j) fun i j => .int (i % j)) (tCB rInt1 (tCons (tOp (rIxL K) (tVar 2) (tC (.int 0))) tNil)) (tVar 1)) (gName 3))
    (tSeq (tAsg (tOp (rI CDiv fun i j => .int (i / j)) (tOp (rIxL K) (tVar 2) (tC (.int 0))) (tVar 1)) (gSub (tVar 2) (tC (.int 0)) rSetL))
      (tSeq (tIfS (tTest (tOp rEq (tOp (rIxL K) (tVar 2) (tC (.int 0))) (tC (.int 0)))) (tSeq (tDrop (tBM K "list" rPopAt (tVar 2) (tCons (tC (.int 0)) tNil))) tNext) tNext) (tSeq (tRet (tVar 3)) tNever)))) tNext) tNext)
theorem b_bgTake {s1 s2 : Stmt} {many : Int} {ρ' : List Sl} {Φr : Pt (Out S L Int)} (hc : c.rs = rsG N q) (h0 : ρ[0]? = some (.rf q)) (h1 : ρ[1]? = some (.val rpI many)) (hlen : 3 < ρ.length) (he : ρ' = (ρ.set 2 .no)) (hps : ∀ tr (hr : PSs X rest tr), ∃ t1, PSs X (s1 :: s2 :: rest) t1 ∧ ∀ D σ H, tBg X.K { D with nx := tr D } σ H → t1 D σ H) (hr : JB X c rest ρ' out lp rpI tr Φr) :
    ∃ t1, JB X c (s1 :: s2 :: rest) ρ out lp rpI t1 (fun post ep => (0 < many ∧ many < 1073741824) ∧ (∀ r : Int, 0 ≤ r → r < many → post (.rt r)) ∧ Φr post ep) := by
  obtain ⟨t1, p1, p2⟩ := hps tr hr.pe
  refine ⟨t1, p1, fun post ep φ G H σ g E D k hx => p2 D σ H ?_⟩
  obtain ⟨⟨m1, m2⟩, φd, φr⟩ := φ
  have w0 : Wd (rsG N q) G H := hc ▸ g.w
  obtain ⟨l, is, ns, n0, n1, n2⟩ := w0.i
  have hv := E.ok 0 _ h0
  obtain ⟨vm, hm, rm⟩ := E.val h1
  obtain rfl : vm = .int many := rm
  have hσl : 3 < σ.length := by rw [E.len]; exact hlen
  have s0 : (σ.set 2 (some (.ref l)))[0]? = some (some (.ref q)) := by rw [List.getElem?_set_ne (by decide)]; exact hv
  have s1 : (σ.set 2 (some (.ref l)))[1]? = some (some (.int many)) := by rw [List.getElem?_set_ne (by decide)]; exact hm
  have s2 : (σ.set 2 (some (.ref l)))[2]? = some (some (.ref l)) := List.getElem?_set_self (by omega)
  have lq : l ≠ q := fun z => by
    rw [z, n1] at n2
    have h3 := HO.lst.inj (Option.some.inj n2)
    cases ns with
    | nil => cases h3
    | cons n ns => cases h3
  refine ⟨.ref q, hv, q, _, 0, .ref l, rfl, rfl, SqL.of n1, at0, .ref l, s2, !(ns.map V.int).isEmpty, .inl ⟨_, SqL.of n2, rfl⟩, ?_⟩
  cases ns with
  | nil =>
    rw [he] at hr
    exact hr.sem _ _ φr G H _ g (E.set (x := .no) trivial rfl) D k hx
  | cons n ns =>
    have z0 : atI ((n :: ns).map V.int) 0 = some (.int n) := at0
    have s3 : ∀ v : V, ((σ.set 2 (some (.ref l))).set 3 (some v))[1]? = some (some (.int many)) ∧ ((σ.set 2 (some (.ref l))).set 3 (some v))[2]? = some (some (.ref l)) ∧ ((σ.set 2 (some (.ref l))).set 3 (some v))[3]? = some (some v) := fun v => by
      refine ⟨?_, ?_, List.getElem?_set_self (by rw [List.length_set]; exact hσl)⟩
      · rw [List.getElem?_set_ne (by decide)]; exact s1
      · rw [List.getElem?_set_ne (by decide)]; exact s2
    have hw : ixN (((n :: ns).map V.int).length) 0 = some 0 := ixNn (k := 0) (by simp)
    obtain ⟨a1, a2, a3⟩ := s3 (.int (n % many))
    refine ⟨.ref l, s2, l, _, 0, .int n, rfl, rfl, SqL.of n2, z0, .inl ⟨n, rfl, .int many, s1, n, many, rfl, rfl, m1, ?_⟩⟩
    refine ⟨.ref l, a2, l, _, 0, .int n, rfl, rfl, SqL.of n2, z0, .int many, a1, n, many, rfl, rfl, ⟨m1, m2⟩, .ref l, a2, l, _, 0, 0, rfl, rfl, n2, hw, ?_⟩
    have hu : ∀ o : HO, upd H l o q = some (.lst (.ref l :: is.map V.int)) := fun o => by rw [upd_ne fun z => lq z.symm]; exact n1
    have fin : ∀ (H' : Hp) (ms : List Int), H' q = some (.lst (.ref l :: is.map V.int)) → H' l = some (.lst (ms.map V.int)) → (∀ a o, a ≠ q → a ≠ l → H a = some o → H' a = some o) → D.rt (.int (n % many)) H' := fun H' ms e1 e2 e3 => by
      have gb : Gr c.rs G H G H' := hc ▸ gr_bg (l := l) (ns := ms) w0 n0 e1 e2 (.inr ⟨_, n1⟩) e3
      exact k.rt G H' _ (n % many) (g.trans gb) (Ex.refl _) rfl (φd _ (Int.emod_nonneg _ (by omega)) (Int.emod_lt_of_pos _ m1))
    have e1 : ((n :: ns).map V.int).set 0 (.int (n / many)) = (n / many :: ns).map V.int := rfl
    rw [e1]
    have z1 : atI ((n / many :: ns).map V.int) 0 = some (.int (n / many)) := at0
    refine ⟨.ref l, a2, l, _, 0, .int (n / many), rfl, rfl, SqL.of upd_same, z1, rfl, decide ((V.int (n / many)) = V.int 0), rfl, ?_⟩
    cases hd : decide ((V.int (n / many)) = V.int 0) with
    | true =>
      refine ⟨.ref l, a2, .inl ⟨rfl, _, SqL.of upd_same⟩, l, _, 0, 0, .int (n / many), rfl, rfl, upd_same, by decide, by decide, ?_, rfl, .int (n % many), a3, ?_⟩
      · simp [seqIndex?]
      · exact fin _ ns (by rw [upd_ne fun z => lq z.symm]; exact hu _) upd_same fun a o y z e => by rw [upd_ne z, upd_ne z]; exact e
    | false => exact ⟨.int (n % many), a3, fin _ (n / many :: ns) (hu _) upd_same fun a o y z e => by rw [upd_ne z]; exact e⟩
end
/-! ### the script walked -/
theorem walkG_scr {K : Fg} {a : Addr} {ns : List Int} : WalkG K rpI (Itl K a) (fun G => SqL K G a (ns.map V.int)) ns := by
  have hl : (ns.map V.int).length = ns.length := List.length_map _
  refine ⟨fun G G' e h => e.sl h, _, _, hl ▸ walk_list (K := K) (a := a) (xs := ns.map V.int), fun G H e h => e.sl h, fun rs j m G H x H' w h e y => ?_⟩
  obtain ⟨rfl, hx⟩ := y
  rw [List.getElem?_map, e] at hx
  cases hx
  exact ⟨G, Gr.refl w, rfl⟩
theorem i_scr {X : Cx} {c : Cn} {ρ : List Sl} {tg e : Expr} {Φ : Pt (List Int)} {te : TE} (he : JE X c e ρ rpQ te Φ) : JI X c tg e ρ rpI (iList X.K te) (fun post ep => Φ (fun xs => xs.length ≤ sizeLine → post xs) ep) := by
  refine ⟨pi_list he.pe, fun post ep φ G H σ w E R k hx => he.sem _ _ φ G H σ w E _ (fun G1 H1 v m g r p => ?_) hx⟩
  obtain ⟨a, rfl, h1, h2⟩ := r
  exact ⟨a, rfl, ⟨_, g.w.s.sl h1⟩, k G1 H1 _ m _ g walkG_scr h1 (p h2)⟩

/-! ### a law that makes its bag first -/
theorem fn_okBg {P : Program} {w : World} {K : Fg} {mg : Str → Option Value} {base : Heap} {x qual : Str} {params : Arguments} {body rest : List Stmt} {s1 : Stmt} {scope : Scope} {f : Addr} {fd : FuncData} {N : List Str} {k n nb : Nat} {dvs : List V} {kws : List (Str × V)}
    (F : FunD K x qual params body scope dvs kws f fd) (hbd : body = s1 :: rest) (S : FnScope N ["script"] scope) (hn : n ≤ sizeLine) {Φr : Pt (Out Unit Empty Bool)} {Φe : List Int → Pt Unit}
    (hb1 : ∀ (cdv : Value) (A : Around) (outer : List Env) (s : Shared) (H : Hp) (E : XK), Room k (A.deeper (envOfC qual scope s.heap.objs.size f cdv)) →
      ∃ te, PS (Cf P w K mg base N qual scope f cdv A outer s H E) s1 (tAsg te (gName 1)) ∧ (∀ ns : List Int, JE (Cf P w K mg base N qual scope f cdv A outer s H E) (Cc rs0 H H E) (asgE s1) (.val rpQ ns :: List.replicate (N.length - 1) .no) (rpBg nb) te (Φe ns)))
    (hb2 : ∀ (cdv : Value) (A : Around) (outer : List Env) (s : Shared) (H : Hp) (E : XK), Room k (A.deeper (envOfC qual scope s.heap.objs.size f cdv)) →
      ∃ tr, ∀ (p : Addr) (H' : Hp), JB (Cf P w K mg base N qual scope f cdv A outer s H E) (Cc (rsG nb p) H H' E) rest ((List.replicate N.length Sl.no).set 1 (.rf p)) (fun _ : Unit => List.replicate N.length .no) (fun z : Empty => nomatch z) rpB tr Φr)
    (hΦe : ∀ ns, Φe ns (fun _ => True) (fun _ => False)) (hΦ : Φr (endP False fun b => b = true) (fun _ => False)) : FnOk P w K mg base (L2.CX P w) (k + 1) f fd ["script"] (spL K n) := by
  refine F.ok S (fun vs H Q E h => ?_) (fun cdv A outer s H vs Q E hr h => ?_)
  · obtain ⟨a, ns, rfl, _⟩ := h
    rfl
  · obtain ⟨a, ns, rfl, hS, hl, hO, hQ⟩ := h
    obtain ⟨te, hs, h1⟩ := hb1 cdv A outer s H E hr
    obtain ⟨tr, h2⟩ := hb2 cdv A outer s H E hr
    refine ⟨tSeq (tAsg te (gName 1)) tr, by rw [hbd]; exact pss_cons hs (h2 0 H).pe, ?_⟩
    have w0 : Wd rs0 H H := ⟨Ex.refl _, trivial, fun _ h => h.elim⟩
    have e0 : En K rs0 H H H (start N [.ref a]) (.val rpQ ns :: List.replicate (N.length - 1) .no) :=
      en_args (rs := rs0) (H0 := H) (H := H) (as := [.val rpQ ns]) (.cons (.val ⟨a, rfl, hS, Nat.le_trans hl hn⟩) .nil) (N.length - 1)
    refine (h1 ns).sem (fun _ => True) (fun _ => False) (hΦe ns) H H _ w0 e0 _ (fun G1 H1 v m g r _ => ?_) (fun _ _ _ _ _ _ _ z => z.elim)
    obtain ⟨p, l, is, ms, rfl, p0, p1, p2⟩ := r
    have fresh : ∀ b o, G1 b = some (.lst o) → H b = none := fun b o e => by
      rcases hO b with h | ⟨u, xs, h⟩
      · exact h
      · have := g.g b _ h
        rw [e] at this
        cases this
    have q1 := g.w.s _ _ p1
    have w2 : Wd (rsG nb p) H H1 := ⟨fun b o e => g.h b o (fun z => z) e, ⟨l, is, ms, p0, q1, g.w.s _ _ p2⟩, fun b s => by
      rcases s with rfl | ⟨t, s⟩
      · exact fresh _ _ p1
      · rw [q1] at s
        cases s
        exact fresh _ _ p2⟩
    have hlen : (start N [V.ref a]).length = N.length := by
      rw [e0.len]
      have hN : N.take 1 = [(Str.ofString "script")] := S.pre
      have : 1 ≤ N.length := by
        have := congrArg List.length hN
        simp at this
        omega
      simp
      omega
    refine (h2 p H1).sem _ _ hΦ H H1 _ (Gr.refl w2) ((en_none hlen).set (x := .rf p) rfl rfl) _ ⟨?_, ?_, ?_, ?_⟩ ?_
    · exact fun G' H' σ' s' g _ _ p => p.elim
    · intro G' H' v b g _ r pb
      obtain rfl : v = .bl b := r
      have pb : b = true := pb
      rw [pb]
      exact hQ H'
    · exact fun G' H' σ' l g _ _ p => p.elim
    · exact fun G' H' σ' l g _ _ p => p.elim
    · exact fun G' H' σ' cls d e g r p => p.elim
end Ty

set_option Elab.async false
set_option linter.all false
set_option maxRecDepth 100000
set_option maxHeartbeats 1000000
set_option autoImplicit false
/-! TyZ: own lists and dicts lent to an expression; fresh lists; pop -/
namespace Ty
open PySem PySem.Spec PyProof.Rows L2
/-! ### lending -/
def HoM (o : HO) : Prop := (∃ vs, o = .lst vs) ∨ ∃ vs, o = .dK vs
/-- what is represented holds nothing that may change -/
class NoO (α : Type) (i : Rp α) : Prop where
  hide : ∀ {K : Fg} {G : Hp} {v : V} {m : α} {l : Addr} {o : HO}, HoM o → G l = some o → i.rp K G v m → i.rp K (hideH l G) v m
instance : NoO Int rpI := ⟨fun _ _ h => h⟩
instance : NoO Bool rpB := ⟨fun _ _ h => h⟩
instance : NoO Str rpS := ⟨fun _ _ h => h⟩
instance : NoO Unit rpN := ⟨fun _ _ h => h⟩
instance : NoO Itm rpU := ⟨fun _ _ h => h⟩
theorem sqT_hideO {K : Fg} {G : Hp} {a l : Addr} {xs : List V} {o : HO} (m : HoM o) (h : G l = some o) (q : SqT K G a xs) : SqT K (hideH l G) a xs := by
  have ne : ∀ {u : HO}, G a = some u → (∀ vs, u ≠ .lst vs) → (∀ vs, u ≠ .dK vs) → a ≠ l := fun e h1 h2 z => by
    rw [z, h] at e
    cases e
    rcases m with ⟨vs, m⟩ | ⟨vs, m⟩
    · exact h1 vs m
    · exact h2 vs m
  rcases q with (q | ⟨o, q⟩) | q
  · exact .inl (.inl (by rw [hide_ne (ne q (fun _ z => nomatch z) (fun _ z => nomatch z))]; exact q))
  · exact .inl (.inr ⟨o, by rw [hide_ne (ne q (fun _ z => nomatch z) (fun _ z => nomatch z))]; exact q⟩)
  · exact .inr q
instance {α β : Type} {i : Rp α} {j : Rp β} [n1 : NoO α i] [n2 : NoO β j] : NoO (α × β) (rp2 (i := i) (j := j)) := ⟨fun m h r => by
  obtain ⟨a, x, y, h1, h2, h3, h4⟩ := r
  exact ⟨a, x, y, h1, sqT_hideO m h h2, n1.hide m h h3, n2.hide m h h4⟩⟩
instance {α : Type} {i : Rp α} [n : NoO α i] : NoO (Tu α) (rpT (i := i)) := ⟨fun m h r => by
  obtain ⟨a, vs, h1, h2, h3, h4⟩ := r
  exact ⟨a, vs, h1, sqT_hideO m h h2, Paired.mapP h3 fun _ _ q => n.hide m h q, h4⟩⟩
theorem gr_lendR {rs : Rs} {G H G' H' : Hp} {l : Addr} {o : HO} (hg : G l = none) (hl : H l = some o) (g : Gr rs (upd G l o) H G' H') : Gr rs G H (hideH l G') H' := by
  have x1 : ∀ a u, G a = some u → a ≠ l := fun a u e z => by rw [z, hg] at e; cases e
  refine ⟨fun a u e => ?_, g.h, g.t, fun a h1 h2 => ?_, g.f, ⟨fun a u e => ?_, g.w.i, fun a ha => ?_⟩⟩
  · rw [hide_ne (x1 a u e)]
    exact g.g a u (by rw [upd_ne (x1 a u e)]; exact e)
  · by_cases z : a = l
    · rw [z, hide_eq]
    · rw [hide_ne z]
      exact g.n a h1 (by rw [upd_ne z]; exact h2)
  · by_cases z : a = l
    · rw [z, hide_eq] at e
      cases e
    · rw [hide_ne z] at e
      exact g.w.s a u e
  · by_cases z : a = l
    · rw [z, hide_eq]
    · rw [hide_ne z]
      exact g.w.n a ha
/-- ρ with an own slot seen as a value -/
structure Lend (K : Fg) (rs : Rs) (H0 : Hp) (ρ ρ' : List Sl) (b : Prop) : Prop where
  run : b → ∀ G H σ, Wd rs G H → En K rs H0 G H σ ρ → ∃ l o, HoM o ∧ G l = none ∧ H l = some o ∧ Wd rs (upd G l o) H ∧ En K rs H0 (upd G l o) H σ ρ'
theorem lend_wd {rs : Rs} {G H : Hp} {l : Addr} {o : HO} (w : Wd rs G H) (hl : H l = some o) (hs : ¬ rs.S H l) : Wd rs (upd G l o) H := ⟨fun a u e => by
  by_cases z : a = l
  · rw [z, upd_same] at e
    rw [z, ← e]
    exact hl
  · rw [upd_ne z] at e
    exact w.s a u e, w.i, fun a ha => by rw [upd_ne fun z : a = l => hs (z ▸ ha)]; exact w.n a ha⟩
theorem lend_en {K : Fg} {rs : Rs} {H0 G H : Hp} {σ : L2.St} {ρ : List Sl} {j : Nat} {l : Addr} {o : HO} {x0 x : Sl} (E : En K rs H0 G H σ ρ) (hj : ρ[j]? = some x0) (ho : x0.own = true) (hs : σ[j]? = some (some (.ref l))) (hg : G l = none) (hl : H l = some o)
    (no : ∀ a, o ≠ .own a) (hx : SlOk K rs H0 (upd G l o) H σ[j]? x) (hn : x.own = false) : En K rs H0 (upd G l o) H σ (ρ.set j x) := by
  refine ⟨by simp [E.len], fun q y e => ?_, fun q r y z b ne e1 e2 o1 o2 s1 s2 => ?_⟩
  · rcases get_set e with ⟨rfl, rfl, z⟩ | ⟨qq, e⟩
    · exact hx
    · have p := E.ok q y e
      have xe : Ex G (upd G l o) := Ex.new hg
      have sp : ∀ l', y.own = true → σ[q]? = some (some (.ref l')) → l' ≠ l := fun l' oy sy z => E.sep q j y x0 l (Ne.symm qq) e hj oy ho (z ▸ sy) hs
      cases y with
      | no => trivial
      | val i m =>
        obtain ⟨v, a, b⟩ := p
        exact ⟨v, a, i.mono xe b⟩
      | ml i xs =>
        obtain ⟨l', vs, h1, h2, h3, h4, h5, h6⟩ := p
        exact ⟨l', vs, h1, h2, h3.mono xe, h4, by rw [upd_ne (sp l' rfl h1)]; exact h5, h6⟩
      | md i xs =>
        obtain ⟨l', vs, h1, h2, h3, h4, h5, h6⟩ := p
        exact ⟨l', vs, h1, h2, h3.mono xe, h4, by rw [upd_ne (sp l' rfl h1)]; exact h5, h6⟩
      | oi l' C fs =>
        obtain ⟨dx, vs, h1, h2, h3, h4, h5, h6, h7, h8, h9, h10⟩ := p
        have nd : dx ≠ l := fun z => by
          rw [z, hl] at h7
          cases h7
          exact no _ rfl
        exact ⟨dx, vs, h1, h2, h3.mono xe, h4, by rw [upd_ne (sp l' rfl h1)]; exact h5, h6, h7, h8, by rw [upd_ne nd]; exact h9, h10⟩
      | rf a => exact p
  · rcases get_set e1 with ⟨rfl, rfl, _⟩ | ⟨q1, e1⟩
    · rw [hn] at o1
      cases o1
    · rcases get_set e2 with ⟨rfl, rfl, _⟩ | ⟨q2, e2⟩
      · rw [hn] at o2
        cases o2
      · exact E.sep q r y z b ne e1 e2 o1 o2 s1 s2
theorem lend_ml {K : Fg} {rs : Rs} {H0 : Hp} {ρ : List Sl} {α : Type} {i : Rp α} {xs : List α} (j : Nat) (hρ : ρ[j]? = some (.ml i xs)) : Lend K rs H0 ρ (ρ.set j (.val (rpL (i := i)) xs)) (xs.length ≤ sizeLine) := ⟨fun b G H σ w E => by
  obtain ⟨l, vs, h1, h2, h3, h4, h5, h6⟩ := E.ok j _ hρ
  exact ⟨l, .lst vs, .inl ⟨vs, rfl⟩, h5, h2, lend_wd w h2 h6, lend_en E hρ rfl h1 h5 h2 (fun _ z => nomatch z) ⟨.ref l, h1, l, vs, rfl, upd_same, h3.mono (Ex.new h5), by rw [h3.length]; exact b⟩ rfl⟩⟩
theorem lend_md {K : Fg} {rs : Rs} {H0 : Hp} {ρ : List Sl} {α : Type} {i : Rp α} {xs : List (Key × α)} (j : Nat) (hρ : ρ[j]? = some (.md i xs)) : Lend K rs H0 ρ (ρ.set j (.val (rpDi (i := i)) ⟨xs⟩)) (xs.length ≤ sizeLine) := ⟨fun b G H σ w E => by
  obtain ⟨l, vs, h1, h2, h3, h4, h5, h6⟩ := E.ok j _ hρ
  exact ⟨l, .dK vs, .inr ⟨vs, rfl⟩, h5, h2, lend_wd w h2 h6, lend_en E hρ rfl h1 h5 h2 (fun _ z => nomatch z) ⟨.ref l, h1, l, vs, rfl, upd_same, h3.mono (Ex.new h5), by rw [h3.length]; exact b⟩ rfl⟩⟩
section
variable {X : Cx} {c : Cn} {ρ ρ' : List Sl} {α β γ : Type} {iα : Rp α} {iβ : Rp β} {iγ : Rp γ} {e : Expr} {te : TE} {tt : TT} {b : Prop}
theorem e_lend [n : NoO α iα] {Φ : Pt α} (L : Lend X.K c.rs c.H0 ρ ρ' b) (h : JE X c e ρ' iα te Φ) : JE X c e ρ iα te (fun post ep => b ∧ Φ post (fun _ => False)) := ⟨h.pe, fun post ep φ G H σ w E Q k hx => by
  obtain ⟨l, o, m, hg, hl, w1, E1⟩ := L.run φ.1 G H σ w E
  exact h.sem _ _ φ.2 _ H σ w1 E1 Q (fun G' H' v x g r p => k _ H' v x (gr_lendR hg hl g) (n.hide m (g.g l _ upd_same) r) p) fun _ _ _ _ _ _ _ z => z.elim⟩
theorem t_lend {Φ : Pt Bool} (L : Lend X.K c.rs c.H0 ρ ρ' b) (h : JT X c e ρ' tt Φ) : JT X c e ρ tt (fun post ep => b ∧ Φ post (fun _ => False)) := ⟨h.pe, fun post ep φ G H σ w E Q k hx => by
  obtain ⟨l, o, m, hg, hl, w1, E1⟩ := L.run φ.1 G H σ w E
  exact h.sem _ _ φ.2 _ H σ w1 E1 Q (fun G' H' x g p => k _ H' x (gr_lendR hg hl g) p) fun _ _ _ _ _ _ _ z => z.elim⟩
end

/-! ### fresh lists -/
structure JFr (X : Cx) (c : Cn) (e : Expr) (ρ : List Sl) {α : Type} (i : Rp α) (t : TE) (Φ : Pt (List α)) : Prop where
  pe : PE X e t
  sem : ∀ post ep, Φ post ep → ∀ G H σ, Wd c.rs G H → En X.K c.rs c.H0 G H σ ρ → ∀ Q : VK, (∀ G' H' l vs ms, Gr c.rs G H G' H' → H' l = some (.lst vs) → RpAll i X.K G' vs ms → H l = none → G' l = none → ¬ c.rs.S H' l → post ms → Q (.ref l) H') → XOk X c G H σ ep → t σ H Q
section
variable {X : Cx} {c : Cn} {ρ ρ' : List Sl} {α β γ : Type} {iα : Rp α} {iβ : Rp β} {iγ : Rp γ} {e a b : Expr} {te ta tb : TE} {tt : TT} {B : Prop} {pos : Pos}
theorem jf_lend [n : NoO α iα] {Φ : Pt (List α)} (L : Lend X.K c.rs c.H0 ρ ρ' B) (h : JFr X c e ρ' iα te Φ) : JFr X c e ρ iα te (fun post ep => B ∧ Φ post (fun _ => False)) := ⟨h.pe, fun post ep φ G H σ w E Q k hx => by
  obtain ⟨l, o, m, hg, hl, w1, E1⟩ := L.run φ.1 G H σ w E
  refine h.sem _ _ φ.2 _ H σ w1 E1 Q (fun G' H' a vs ms g h1 h2 h3 h4 h5 p => ?_) fun _ _ _ _ _ _ _ z => z.elim
  refine k _ H' a vs ms (gr_lendR hg hl g) h1 (Paired.mapP h2 fun _ _ q => n.hide m (g.g l _ upd_same) q) h3 ?_ h5 p
  by_cases z : a = l
  · rw [z, hide_eq]
  · rw [hide_ne z]
    exact h4⟩
theorem fresh_in {rs : Rs} {G H G1 H1 : Hp} {l : Addr} (w : Wd rs G H) (g : Gr rs G H G1 H1) (hl : H1 l = none) : H l = none ∧ G1 l = none := by
  constructor
  · by_cases q : H l = none
    · exact q
    · exact absurd hl (g.t l q)
  · cases e : G1 l with
    | none => rfl
    | some u =>
      have z := g.w.s l u e
      rw [hl] at z
      cases z
theorem jf_disp {es : List Expr} {ι : Type} {as : ι → List Sl} {f : ι → List α} {t : TA} {Φ : Pt ι} (h : JA X c es ρ as t Φ) (ha : AllA iα as f) : JFr X c (.List es pos) ρ iα (tLst t) (fun post ep => Φ (fun x => (f x).length ≤ sizeLine ∧ post (f x)) ep) := by
  refine ⟨pe_lst h.pe, fun post ep φ G H σ w E Q k hx => h.sem _ _ φ G H σ w E _ (fun G1 H1 vs x g1 r p => ?_) hx⟩
  have ra := ha.out r
  refine ⟨by rw [ra.length]; exact p.1, fun l hl => ?_⟩
  obtain ⟨z1, z2⟩ := fresh_in w g1 hl
  exact k G1 _ l vs (f x) (g1.trans (gr_newH g1.w hl)) upd_same ra z1 z2 (not_new g1.w hl) p.2
theorem jf_lstL {p1 p2 : Pos} {Φe : Pt (List α)} (hm : X.mg "list" = none) (he : JE X c e ρ (rpL (i := iα)) te Φe) (hbv : bootBuiltins "list" = some (.type "list") := by decide +kernel) (hg : Gl X "list" := by rfl)
    (hst : starEach [e] X.env = (false, eval e X.env) :: starEach [] X.env := by rfl) : JFr X c (.Call (.Name "list" p1) [e] [] p2) ρ iα (tCB (rListOf X.K) (tCons te tNil)) Φe := by
  refine ⟨pe_callTy call_list_of hg hm hbv (pa_cons he.pe pa_nil hst) (by decide) (by decide) hst, fun post ep φ G H σ w E Q k hx => he.sem _ _ φ G H σ w E _ (fun G1 H1 v m g1 r p => ?_) hx⟩
  obtain ⟨a, vs, rfl, h1, h2, h3⟩ := r
  refine ⟨a, vs, rfl, .inl (SqL.of (g1.w.s a _ h1)), fun l hl => ?_⟩
  obtain ⟨z1, z2⟩ := fresh_in w g1 hl
  exact k G1 _ l vs m (g1.trans (gr_newH g1.w hl)) upd_same h2 z1 z2 (not_new g1.w hl) p
theorem jf_lstT {p1 p2 : Pos} {Φe : Pt (Tu α)} (hm : X.mg "list" = none) (he : JE X c e ρ (rpT (i := iα)) te Φe) (hbv : bootBuiltins "list" = some (.type "list") := by decide +kernel) (hg : Gl X "list" := by rfl)
    (hst : starEach [e] X.env = (false, eval e X.env) :: starEach [] X.env := by rfl) : JFr X c (.Call (.Name "list" p1) [e] [] p2) ρ iα (tCB (rListOf X.K) (tCons te tNil)) (fun post ep => Φe (fun m => post m.l) ep) := by
  refine ⟨pe_callTy call_list_of hg hm hbv (pa_cons he.pe pa_nil hst) (by decide) (by decide) hst, fun post ep φ G H σ w E Q k hx => he.sem _ _ φ G H σ w E _ (fun G1 H1 v m g1 r p => ?_) hx⟩
  obtain ⟨a, vs, rfl, h1, h2, h3⟩ := r
  refine ⟨a, vs, rfl, .inr (g1.w.s.st h1), fun l hl => ?_⟩
  obtain ⟨z1, z2⟩ := fresh_in w g1 hl
  exact k G1 _ l vs m.l (g1.trans (gr_newH g1.w hl)) upd_same h2 z1 z2 (not_new g1.w hl) p
theorem jf_add {Φa Φb : Pt (List α)} (ha : JE X c a ρ (rpL (i := iα)) ta Φa) (hb : JE X c b ρ (rpL (i := iα)) tb Φb) : JFr X c (.BinOp a .Add b pos) ρ iα (tOp (rCat) ta tb) (fun post ep => Φa (fun x => Φb (fun y => x.length + y.length ≤ sizeLine ∧ post (x ++ y)) ep) ep) := by
  refine ⟨pe_op op_cat ha.pe hb.pe, fun post ep φ G H σ w E Q k hx => ha.sem _ _ φ G H σ w E _ (fun G1 H1 v m g1 r p => ?_) hx⟩
  refine hb.sem _ _ p G1 H1 σ g1.w (E.up g1) _ (fun G2 H2 v2 m2 g2 r2 p2 => ?_) (hx.up g1)
  obtain ⟨x, vs, rfl, h1, h2, h3⟩ := rpL.mono g2.g r
  obtain ⟨y, us, rfl, h4, h5, h6⟩ := r2
  have g12 := g1.trans g2
  refine ⟨x, y, vs, us, rfl, rfl, g2.w.s x _ h1, g2.w.s y _ h4, by rw [h2.length, h5.length]; exact p2.1, fun l hl => ?_⟩
  obtain ⟨z1, z2⟩ := fresh_in w g12 hl
  exact k G2 _ l (vs ++ us) (m ++ m2) (g12.trans (gr_newH g2.w hl)) upd_same (h2.append h5) z1 z2 (not_new g2.w hl) p2.2
end
section
variable {X : Cx} {c : Cn} {ρ : List Sl} {S L β α : Type} {out : S → List Sl} {lp : L → List Sl} {i : Rp β} {iα : Rp α} {pos : Pos} {rest : List Stmt} {tr : TS} {e : Expr} {te : TE}
/-- x = e, e a fresh list: x is an own list -/
theorem b_own (j : Nat) {x : Str} {px : Pos} {Φe : Pt (List α)} {Φr : List α → Pt (Out S L β)} (hN : X.N.Nodup) (he : JFr X c e ρ iα te Φe) (hr : ∀ m, JB X c rest (ρ.set j (.ml iα m)) out lp i tr (Φr m)) (hj : X.N[j]? = some x := by rfl) (hx : Loc X.env.scope x := by first | exact Or.inl rfl | exact Or.inr rfl)
    (hs : swapsWith e (some (.Name x px)) pos.line X.env = pure false := by rfl) (hf : X.fn x = true ∨ X.env.scope.names.lookup x = some .local := by first | exact .inl rfl | exact .inr rfl) :
    JB X c (.Assign [.Name x px] e pos :: rest) ρ out lp i (tSeq (tAsg te (gName j)) tr) (fun post ep => Φe (fun m => Φr m post ep) ep) := by
  refine ⟨pss_cons (ps_set hN hj hx he.pe hs hf) (hr []).pe, fun post ep φ G H σ g E D k hx => ?_⟩
  refine he.sem _ _ φ G H σ g.w E _ (fun G1 H1 l vs m g1 h1 h2 h3 h4 h5 p => ?_) (hx.at g)
  have h0 := (fresh0 g h3).1
  refine (hr m).sem _ _ p G1 H1 _ (g.trans g1) ((E.up g1).setOwn (x := .ml iα m) ⟨l, vs, rfl, h1, h2, h0, h4, h5⟩ fun q y _ ey oy sy => ?_) D (k.up g1.g) hx
  exact absurd h3 (E.own_some ey oy sy)
theorem rpAll_erase {α : Type} {iα : Rp α} {K : Fg} {G : Hp} : ∀ {vs : List V} {ms : List α}, RpAll iα K G vs ms → ∀ n : Nat, RpAll iα K G (vs.eraseIdx n) (ms.eraseIdx n)
  | _, _, .nil, _ => .nil
  | _, _, .cons _ t, 0 => t
  | _, _, .cons a t, n + 1 => .cons a (rpAll_erase t n)
/-- x = l.pop(e), l an own list -/
theorem b_pop [Nonempty α] {xs : List α} (j q : Nat) {x y : Str} {px py pa pc : Pos} {Φe : Pt Int} {Φr : α → List α → Pt (Out S L β)} (hρ : ρ[q]? = some (.ml iα xs)) (hN : X.N.Nodup) (hjq : q ≠ j) (he : JE X c e ρ rpI te Φe) (hr : ∀ m ys, JB X c rest ((ρ.set q (.ml iα ys)).set j (.val iα m)) out lp i tr (Φr m ys))
    (hj : X.N[j]? = some x := by rfl) (hx : Loc X.env.scope x := by first | exact Or.inl rfl | exact Or.inr rfl) (hq : X.N[q]? = some y := by rfl)
    (hs : swapsWith (.Call (.Attribute (.Name y py) "pop" pa) [e] [] pc) (some (.Name x px)) pos.line X.env = pure false := by rfl) (hf : X.fn x = true ∨ X.env.scope.names.lookup x = some .local := by first | exact .inl rfl | exact .inr rfl)
    (hv : Vis X.env.scope y := by first | exact Or.inl rfl | exact Or.inr (Or.inl rfl) | exact Or.inr (Or.inr rfl)) (hd : (y == ("__debug__" : Str)) = false := by decide) (hcd : (y == ("__classdict__" : Str)) = false := by decide)
    (hbase : attributeBase (.Name y py) "pop" X.env (eval (.Name y py) X.env) = eval (.Name y py) X.env := by rfl)
    (hfew : ((backTo pc (starEach [e] X.env)).all (fun x => !x.1) && (backToKw pc (keywordEach [] X.env)).all (fun x => x.1.isSome) && decide (([e] : List Expr).length + ([] : List Keyword).length + (if ([] : List Keyword).isEmpty then 0 else 1) < 30)) = true := by rfl)
    (hline : (pa.endLine == pc.line) = true := by rfl) (hst : starEach [e] X.env = (false, eval e X.env) :: starEach [] X.env := by rfl) :
    JB X c (.Assign [.Name x px] (.Call (.Attribute (.Name y py) "pop" pa) [e] [] pc) pos :: rest) ρ out lp i (tSeq (tAsg (tBM X.K "list" rPopAt (tVar q) (tCons te tNil)) (gName j)) tr)
      (fun post ep => Φe (fun n => (0 ≤ n ∧ n < xs.length ∧ xs.length ≤ sizeLine) ∧ ∀ m, xs[n.toNat]? = some m → Φr m (xs.eraseIdx n.toNat) post ep) ep) := by
  refine ⟨pss_cons (ps_set hN hj hx (pe_bm PySem.F.plainAttrs_list PySem.F.slot_list_pop PySem.F.type_list_pop mt_popAt (pe_var hq hv hd hcd) (pa_cons he.pe pa_nil hst) hbase hfew hline hst rfl) hs hf) (hr (Classical.choice inferInstance) []).pe, fun post ep φ G H σ g E D k hx => ?_⟩
  obtain ⟨l, vs, h1, h2, h3, h4, h5, h6⟩ := E.ok q _ hρ
  refine ⟨.ref l, h1, .inl ⟨rfl, vs, SqL.of h2⟩, ?_⟩
  refine he.sem _ _ φ G H σ g.w E _ (fun G1 H1 v n g1 r p => ?_) (hx.at g)
  obtain ⟨l', vs', h1', h2', h3', h4', h5', h6'⟩ := (E.up g1).ok q _ hρ
  rw [h1] at h1'
  cases h1'
  have hlen := h3'.length
  obtain ⟨⟨p1, p2, p4⟩, p3⟩ := p
  have hk : n.toNat < xs.length := by omega
  have hz : sizeLine = 2 ^ 24 := rfl
  obtain ⟨u, e1, ru⟩ := h3'.get (List.getElem?_eq_getElem hk)
  refine ⟨l, vs', n, n.toNat, u, rfl, by rw [show v = V.int n from r], h2', by omega, by omega, ?_, e1, ?_⟩
  · unfold seqIndex?
    rw [hlen]
    have z : ¬ n < 0 := by omega
    simp only [z, if_false]
    rw [if_pos (by simp only [Bool.and_eq_true, decide_eq_true_eq]; omega)]
  have gm := gr_mut (o := .lst (vs'.eraseIdx n.toNat)) (g.trans g1) h4' h5' h6' (some_ne h2')
  have es : ∀ a, c.rs.S H1 a → upd H1 l (.lst (vs'.eraseIdx n.toNat)) a = H1 a := fun a ha => upd_ne fun z => h6' (z ▸ ha)
  have E2 := (E.up g1).mut g1.w hρ rfl h1 h2' h6' (fun a z => by cases z) (o' := .lst (vs'.eraseIdx n.toNat)) (x := .ml iα (xs.eraseIdx n.toNat)) ⟨l, vs'.eraseIdx n.toNat, rfl, upd_same, rpAll_erase h3' _, h4', h5', fun z => h6' (((c.rs.loc g1.w.i es).2 l).mp z)⟩
  exact (hr _ _).sem _ _ (p3 _ (List.getElem?_eq_getElem hk)) G1 _ _ gm (E2.set ⟨u, rfl, ru⟩ rfl) D (k.up g1.g) hx
end
end Ty

set_option Elab.async false
set_option linter.all false
set_option maxRecDepth 100000
set_option maxHeartbeats 1000000
set_option autoImplicit false
/-! TzA: tuples cut by steps, index, in over data, triples, range by steps, dict comprehensions, kept dicts -/
namespace Ty
open PySem PySem.Spec PyProof.Rows L2
/-! ### t[a:b:s] -/
def cut3 {α : Type} (xs : List α) (lo hi : Option Int) (st : Int) : List α :=
  (List.range (Builtin.Slice.slicePlaces (Builtin.Slice.sliceAdjust lo hi st xs.length).1 (Builtin.Slice.sliceAdjust lo hi st xs.length).2 st)).filterMap fun (k : Nat) => xs[((Builtin.Slice.sliceAdjust lo hi st xs.length).1 + (k : Int) * st).toNat]?
theorem pick_pair {α β : Type} {R : α → β → Prop} {vs : List α} {us : List β} (h : Paired R vs us) (f : Nat → Nat) : ∀ ks : List Nat, Paired R (ks.filterMap fun k => vs[f k]?) (ks.filterMap fun k => us[f k]?)
  | [] => .nil
  | k :: ks => by
    have t := pick_pair h f ks
    have gt : ∀ {vs : List α} {us : List β} (n : Nat), Paired R vs us → (vs[n]? = none ∧ us[n]? = none) ∨ ∃ v u, vs[n]? = some v ∧ us[n]? = some u ∧ R v u := by
      intro vs us n h
      induction h generalizing n with
      | nil => exact .inl ⟨by simp, by simp⟩
      | cons r _ ih =>
        cases n with
        | zero => exact .inr ⟨_, _, rfl, rfl, r⟩
        | succ n => simpa using ih n
    rw [List.filterMap_cons, List.filterMap_cons]
    rcases gt (f k) h with ⟨e1, e2⟩ | ⟨v, u, e1, e2, r⟩
    · rw [e1, e2]
      exact t
    · rw [e1, e2]
      exact .cons r t
theorem cut3_pair {α β : Type} {R : α → β → Prop} {vs : List α} {us : List β} (h : Paired R vs us) (hl : vs.length = us.length) (lo hi : Option Int) (st : Int) : Paired R (cut3 vs lo hi st) (cut3 us lo hi st) := by
  unfold cut3
  rw [hl]
  exact pick_pair h _ _
section
variable {prog : Program} {w : World} {A : Around} {E : Value → Shared → Prop} {s : Shared}
theorem applied_step {sl : Addr} {vl vu vt : Value} {lo hi : Option Int} {st : Int} {n : Nat} {Q : Int × Int × Nat → Shared → Prop} (hs : s.heap.IsSliceOf sl vl vu vt) (pl : IsPart vl lo) (pu : IsPart vu hi) (pt : IsPart vt (some st)) (h0 : st ≠ 0)
    (h : Q ((Builtin.Slice.sliceAdjust lo hi st n).1, st, Builtin.Slice.slicePlaces (Builtin.Slice.sliceAdjust lo hi st n).1 (Builtin.Slice.sliceAdjust lo hi st n).2 st) s) : wpAny (model prog w) A (Builtin.Slice.sliceApplied (.ref sl) (pure (n : Int))) Q E s := by
  obtain ⟨o, ho, hc, hd⟩ := id hs
  unfold Builtin.Slice.sliceApplied Builtin.Slice.sliceFields
  refine wpAny_bind (wpAny_bind (wpAny_field ho hd (x := vl) rfl (wpAny_bind (wpAny_field ho hd (x := vu) rfl (wpAny_bind (wpAny_field ho hd (x := vt) rfl (wpAny_pure ?_)))))))
  refine wpAny_bind (HT.slicePart_ pt ?_)
  show wpAny _ _ (if (st == 0) = true then _ else _) _ _ s
  rw [if_neg (by simpa using h0)]
  refine wpAny_bind (HT.slicePart_ pl (wpAny_bind (HT.slicePart_ pu (wpAny_bind (wpAny_pure ?_)))))
  exact wpAny_pure h
theorem tuple_step {t sl : Addr} {zs : Array Value} {vl vu vt : Value} {lo hi : Option Int} {st : Int} {Q : Value → Shared → Prop} (ht : IsTup s.heap t zs) (hs : s.heap.IsSliceOf sl vl vu vt) (pl : IsPart vl lo) (pu : IsPart vu hi) (pt : IsPart vt (some st)) (h0 : st ≠ 0) (h1 : st ≠ 1)
    (hz : (cut3 zs.toList lo hi st).length ≤ sizeLine) (h : Q (.ref s.heap.objs.size) { s with heap := s.heap.push { cls := .type "tuple", data := .seq (cut3 zs.toList lo hi st).toArray } }) :
    wpAny (model prog w) A (getItem (.ref t) (.ref sl)) Q E s := by
  have hk : sizeOk (.seq (cut3 zs.toList lo hi st).toArray) := by
    show (cut3 zs.toList lo hi st).toArray.size ≤ sizeLine
    rw [List.size_toArray]
    exact hz
  obtain ⟨o, ho, hc, hd⟩ := id hs
  have hT : s.TypeIs (.ref sl) "slice" := ⟨o, ho, hc⟩
  unfold getItem
  try with_reducible refine wpAny_holding ?_
  first | refine wpAny_bind (wpAny_pure ?_) | skip
  refine wpAny_bind (wpAny_sequenceKey ht.typeIs (by decide) ?_)
  refine wpAny_bind (wpAny_callSpecial?_slot (name := Str.ofString "__getitem__") ht.typeIs slot_tuple_getitem (wpAny_call_entry slot_tuple_getitem ht.typeIs entry_tuple_getitem ?_ (args_tuple_getitem _ _)))
  show wpAny _ _ (Builtin.Tuple.tupleItemsOf (.ref t) >>= _) _ _ s
  refine wpAny_bind (tupleItemsOf_ ht (wpAny_bind (wpAny_typeOf hT ?_)))
  rw [if_pos (by decide)]
  refine wpAny_bind (applied_step (n := zs.size) hs pl pu pt h0 ?_)
  have no : ¬ (((Builtin.Slice.sliceAdjust lo hi st zs.size).1 == 0 && st == 1 && Builtin.Slice.slicePlaces (Builtin.Slice.sliceAdjust lo hi st zs.size).1 (Builtin.Slice.sliceAdjust lo hi st zs.size).2 st == zs.size) = true) := by
    intro q
    rw [Bool.and_eq_true, Bool.and_eq_true] at q
    exact h1 (eq_of_beq q.1.2)
  show wpAny _ _ (if ((Builtin.Slice.sliceAdjust lo hi st zs.size).1 == 0 && st == 1 && Builtin.Slice.slicePlaces (Builtin.Slice.sliceAdjust lo hi st zs.size).1 (Builtin.Slice.sliceAdjust lo hi st zs.size).2 st == zs.size) = true then _ else _) _ _ s
  rw [if_neg no]
  have e : ((List.range (Builtin.Slice.slicePlaces (Builtin.Slice.sliceAdjust lo hi st zs.size).1 (Builtin.Slice.sliceAdjust lo hi st zs.size).2 st)).filterMap fun (k : Nat) => zs[((Builtin.Slice.sliceAdjust lo hi st zs.size).1 + (k : Int) * st).toNat]?).toArray = (cut3 zs.toList lo hi st).toArray := by
    unfold cut3
    rw [Array.length_toList]
    congr 1
    congr 1
    funext k
    rw [Array.getElem?_toList]
  dsimp only at e ⊢
  rw [e]
  first
    | exact wpAny_bind (m := Builtin.Tuple.tupleExact _) (wpAny_newObj_type (wpAny_pure ⟨_, rfl, wpAny_pure h⟩) hk)
    | exact wpAny_bind (m := Builtin.Tuple.tupleExact _) (wpAny_newObj_type (wpAny_bind (wpAny_pure (wpAny_pure ⟨_, rfl, wpAny_pure h⟩))) hk)
    | exact wpAny_bind (wpAny_bind (m := Builtin.Tuple.tupleExact _) (wpAny_newObj_type (wpAny_pure (wpAny_pure ⟨_, rfl, wpAny_pure h⟩)) hk))
    | exact wpAny_bind (wpAny_bind (m := Builtin.Tuple.tupleExact _) (wpAny_newObj_type (wpAny_pure ⟨_, rfl, wpAny_pure h⟩) hk))
end
def tStepT (K : Fg) (te : TE) (tl th ts : TO) : TE := fun σ H Q => te σ H fun x H1 => tl σ H1 fun lo H2 => th σ H2 fun hi H3 => ts σ H3 fun o H4 => ∃ a xs st, x = .ref a ∧ o = some st ∧ SqT K H4 a xs ∧ st ≠ 0 ∧ st ≠ 1 ∧ (cut3 xs lo hi st).length ≤ sizeLine ∧ ∀ p, H4 p = none → Q (.ref p) (upd H4 p (.tup (cut3 xs lo hi st)))
section
variable {X : Cx} {c : Cn} {ρ : List Sl} {α β γ : Type} {i : Rp α} {iβ : Rp β} {e a b : Expr} {te ta tb : TE} {p2 pos : Pos}
theorem pe_stepT {lo hi : Option Expr} {se : Expr} {tl th ts : TO} (he : PE X e te) (hl : PO X lo tl) (hh : PO X hi th) (hs : PO X (some se) ts) (hw : ∃ ops : Value → Value → List Value, ∀ ov sv, subscripted (.Slice lo hi (some se) p2) false ov sv = operate (ops ov sv) (getItem ov sv) := by with_unfolding_all (first | exact ⟨fun ov sv => [sv, ov], fun _ _ => rfl⟩ | exact ⟨fun ov sv => [ov, sv], fun _ _ => rfl⟩)) :
    PE X (.Subscript e (.Slice lo hi (some se) p2) pos) (tStepT X.K te tl th ts) := by
  refine ⟨fun pins s σ H Q I h => ?_⟩
  refine Subscript_ (thn (he.run pins s σ H _ I h) fun v s1 ⟨x, H1, I1, r1, q1⟩ => ?_)
  refine wpAny_Slice (thn (hl.run pins s1 σ H1 _ I1 q1) fun vl s2 ⟨l, H2, I2, pl, q2⟩ => thn (hh.run pins s2 σ H2 _ I2 q2) fun vu s3 ⟨u, H3, I3, pu, q3⟩ => thn (hs.run pins s3 σ H3 _ I3 q3) fun vs s4 ⟨o, H4, I4, ps, q4⟩ => ?_)
  obtain ⟨a, xs, st, ex, eo, hx, h0, h1, hz, q⟩ := q4
  subst ex eo
  cases r1
  have I5 : Inv X pins σ H4 { s4 with heap := s4.heap.push { cls := .type "slice", data := .fields #[vl, vu, vs] } } := I4.kept (t' := s4.toks) fun b ob z => Heap.get?_push_of_some _ z
  obtain ⟨its, r, ht, hzz⟩ := I5.tuple hx
  have pr := cut3_pair r r.length l u st
  show wpAny (model X.prog X.w) X.A (subscriptTail e (.Slice lo hi (some se) p2) (.ref a) (.ref s4.heap.objs.size)) (EP X pins σ Q) X.xe { s4 with heap := s4.heap.push { cls := .type "slice", data := .fields #[vl, vu, vs] } }
  obtain ⟨ops, hw⟩ := hw
  refine tail_any (ops := ops (.ref a) (.ref s4.heap.objs.size)) ht.typeIs slot_tuple_getitem.lookup ?_ (hw _ _)
  refine tuple_step ht (Heap.IsSliceOf.new _ vl vu vs) pl pu ps h0 h1 ?_ ?_
  · show (cut3 its.toArray.toList l u st).length ≤ sizeLine
    rw [List.toList_toArray, ← pr.length]
    exact hz
  · refine ⟨.ref _, _, I5.laid (t' := s4.toks) (o := .tup (cut3 xs l u st)) (fun b ob z => Heap.get?_push_of_some _ z) (Nat.le_refl _) ?_, rfl, q _ (I5.hok.fresh (Nat.le_refl _))⟩
    exact ⟨hz, _, by simpa using pr, IsTup.new _ _⟩
end
end Ty

set_option Elab.async false
set_option linter.all false
set_option maxRecDepth 100000
set_option maxHeartbeats 1000000
set_option autoImplicit false
namespace Ty
open PySem PySem.Spec PyProof.Rows L2
section
variable {X : Cx} {c : Cn} {ρ : List Sl} {α β γ : Type} {i iα : Rp α} {iβ : Rp β} {e a b : Expr} {te ta tb : TE} {p2 pos : Pos}
/-- t[lo:hi:s], s neither 0 nor 1 -/
theorem e_step {Φe : Pt (Tu α)} {lo hi : Option Expr} {se : Expr} {tl th ts : TO} {Φl Φh Φs : Pt (Option Int)} (he : JE X c e ρ (rpT (i := i)) te Φe) (hl : JO X c lo ρ tl Φl) (hh : JO X c hi ρ th Φh) (hs : JO X c (some se) ρ ts Φs)
    (hw : ∃ ops : Value → Value → List Value, ∀ ov sv, subscripted (.Slice lo hi (some se) p2) false ov sv = operate (ops ov sv) (getItem ov sv) := by with_unfolding_all (first | exact ⟨fun ov sv => [sv, ov], fun _ _ => rfl⟩ | exact ⟨fun ov sv => [ov, sv], fun _ _ => rfl⟩)) :
    JE X c (.Subscript e (.Slice lo hi (some se) p2) pos) ρ (rpT (i := i)) (tStepT X.K te tl th ts) (fun post ep => Φe (fun xs => Φl (fun l => Φh (fun h => Φs (fun s => ∃ st, s = some st ∧ (st ≠ 0 ∧ st ≠ 1 ∧ (cut3 xs.l l h st).length ≤ sizeLine) ∧ post ⟨cut3 xs.l l h st⟩) ep) ep) ep) ep) := by
  refine ⟨pe_stepT he.pe hl.pe hh.pe hs.pe hw, fun post ep φ G H σ w E Q k hx => ?_⟩
  refine he.sem _ _ φ G H σ w E _ (fun G1 H1 v m g1 r1 p1 => ?_) hx
  refine hl.sem _ _ p1 G1 H1 σ g1.w (E.up g1) _ (fun G2 H2 l g2 p2 => ?_) (hx.up g1)
  have g12 := g1.trans g2
  refine hh.sem _ _ p2 G2 H2 σ g2.w (E.up g12) _ (fun G3 H3 h g3 p3 => ?_) (hx.up g12)
  have g13 := g12.trans g3
  refine hs.sem _ _ p3 G3 H3 σ g3.w (E.up g13) _ (fun G4 H4 s g4 p4 => ?_) (hx.up g13)
  have g14 := g13.trans g4
  obtain ⟨a, vs, rfl, q1, q2, q3⟩ := r1
  obtain ⟨st, es, ⟨h0, h1, hz⟩, p⟩ := p4
  have rr := q2.mono (g2.g.trans (g3.g.trans g4.g))
  have pr := cut3_pair rr q2.length l h st
  refine ⟨a, vs, st, rfl, es, g4.w.s.st ((g2.g.trans (g3.g.trans g4.g)).st q1), h0, h1, by rw [pr.length]; exact hz, fun q hq => ?_⟩
  have g := gr_new (o := .tup (cut3 vs l h st)) g4.w hq
  exact k _ _ _ _ (g14.trans g) ⟨q, _, rfl, SqT.of upd_same, RpAll.mono g.g pr, by rw [pr.length]; exact hz⟩ p
/-- t[lo:hi], also the whole -/
theorem sl_TA : SlW X (rpT (i := i)) (rpT (i := i)) (rSlA X.K) (fun xs lo hi post _ => post ⟨cutL xs.l lo hi⟩) :=
  ⟨sl_tupA, fun rs G H x a lo hi post ep Q w r φ k => by
    obtain ⟨l, vs, rfl, h1, h2, h3⟩ := r
    refine ⟨l, vs, rfl, w.s.st h1, fun q => ?_, fun q p hp => ?_⟩
    · have e : cutL a.l lo hi = a.l := by
        unfold cutL
        rw [← h2.length, q.1, q.2, List.drop_zero, Nat.sub_zero, h2.length, List.take_length]
      exact k G H _ ⟨cutL a.l lo hi⟩ (Gr.refl w) ⟨l, vs, rfl, h1, by rw [e]; exact h2, h3⟩ φ
    · have g := gr_new (o := .tup (cutV vs lo hi)) w hp
      exact k _ _ _ _ g ⟨p, _, rfl, SqT.of upd_same, (h2.cut lo hi).mono g.g, Nat.le_trans (cutV_length _ _ _) h3⟩ φ⟩
/-- t.index(x), texts -/
theorem strs_map {K : Fg} {G : Hp} : ∀ {vs : List V} {ms : List Str}, RpAll rpS K G vs ms → vs = ms.map V.str
  | _, _, .nil => rfl
  | _, _, .cons h t => by
    rw [List.map_cons, ← strs_map t]
    exact congrArg (· :: _) h
/-- tuples of which it is known that they have no dict -/
abbrev rpF {α : Type} {i : Rp α} : Rp (Tu α) := ⟨fun K G v ms => ∃ a vs o, v = .ref a ∧ G a = some (.frz o (.tup vs)) ∧ o.dict = none ∧ RpAll i K G vs ms.l ∧ vs.length ≤ sizeLine, fun x h => by
  obtain ⟨a, vs, o, h0, h1, h2, h3, h4⟩ := h
  exact ⟨a, vs, o, h0, x a _ h1, h2, h3.mono x, h4⟩⟩
theorem upF {α : Type} {i : Rp α} : UpW (rpF (i := i)) (rpT (i := i)) (fun m : Tu α => m) := fun K G v m h => by
  obtain ⟨a, vs, o, rfl, h1, _, h3, h4⟩ := h
  exact ⟨a, vs, rfl, .inl (.inr ⟨o, h1⟩), h3, h4⟩
def tTupF (t : TA) : TE := fun σ H Q => t σ H fun xs H1 => xs.length ≤ sizeLine ∧ ∀ p o, H1 p = none → o.dict = none → Q (.ref p) (upd H1 p (.frz o (.tup xs)))
theorem pe_tupF {es : List Expr} {t : TA} {k0 : Nat} (h : PA X es t) : PE X (.Tuple es k0 pos) (tTupF t) := by
  refine ⟨fun pins s σ H Q I hq => ?_⟩
  refine wpAny_Tuple_spliced (thn (h.run pos pins s σ H _ I hq) fun us s1 ⟨xs, H1, I1, r, z, q⟩ => ⟨by rw [← r.length]; exact z, ?_⟩)
  refine ⟨.ref s1.heap.objs.size, _, I1.laid (t' := s1.toks) (o := .frz { cls := .type "tuple", data := .seq us.toArray } (.tup xs)) (fun b u e => Heap.get?_push_of_some _ e) (Nat.le_refl _) ?_, rfl, q _ _ (I1.hok.fresh (Nat.le_refl _)) rfl⟩
  exact ⟨Heap.get?_push_size _ rfl, z, us, r, ⟨_, Heap.get?_push_size _ rfl, rfl, _, rfl⟩⟩
theorem e_tupF {es : List Expr} {k0 : Nat} {ι : Type} {as : ι → List Sl} {f : ι → List α} {t : TA} {Φ : Pt ι} (h : JA X c es ρ as t Φ) (ha : AllA iα as f) : JE X c (.Tuple es k0 pos) ρ (rpF (i := iα)) (tTupF t) (fun post ep => Φ (fun x => (f x).length ≤ sizeLine ∧ post ⟨f x⟩) ep) := by
  refine ⟨pe_tupF h.pe, fun post ep φ G H σ w E Q k hx => h.sem _ _ φ G H σ w E _ (fun G1 H1 vs x g1 r p => ?_) hx⟩
  have ra := ha.out r
  refine ⟨by rw [ra.length]; exact p.1, fun q o hq ho => ?_⟩
  have g := gr_new (o := .frz o (.tup vs)) g1.w hq
  exact k _ _ _ _ (g1.trans g) ⟨q, vs, o, rfl, upd_same, ho, ra.mono g.g, by rw [ra.length]; exact p.1⟩ p.2
/-- t + u, neither empty -/
def rCatF (K : Fg) : R2 := fun x y H Q => ∃ a b xs ys, x = .ref a ∧ y = .ref b ∧ SqT K H a xs ∧ SqT K H b ys ∧ xs ≠ [] ∧ ys ≠ [] ∧ xs.length + ys.length ≤ sizeLine ∧ ∀ p o, H p = none → o.dict = none → Q (.ref p) (upd H p (.frz o (.tup (xs ++ ys))))
theorem op_catF : OpR X (binaryOp .Add) (rCatF X.K) := by
  intro pins s σ H x y v u Q I rx ry h
  obtain ⟨a, b, xs, ys, rfl, rfl, ha, hb, hx, hy, hz, q⟩ := h
  cases rx
  cases ry
  obtain ⟨its, r1, p1, _⟩ := I.tuple ha
  obtain ⟨its2, r2, p2, _⟩ := I.tuple hb
  refine HT.cat_tup p1 p2 (fun z => hx (r1.nil_iff.mp z)) (fun z => absurd (r2.nil_iff.mp z) hy) (fun z => ?_) (by rw [← r1.length, ← r2.length]; exact hz)
  refine ⟨.ref s.heap.objs.size, _, I.laid (t' := s.toks) (o := .frz { cls := .type "tuple", data := .seq (its ++ its2).toArray } (.tup (xs ++ ys))) (fun b ob q => Heap.get?_push_of_some _ q) (Nat.le_refl _) ?_, rfl, q _ _ (I.hok.fresh (Nat.le_refl _)) rfl⟩
  exact ⟨Heap.get?_push_size _ rfl, by rw [List.length_append]; exact hz, _, r1.append r2, IsTup.new _ _⟩
theorem add_F : OpW X (binaryOp .Add) (rpF (i := i)) (rpT (i := i)) (rpF (i := i)) (rCatF X.K) (fun a b post _ => (a.l ≠ [] ∧ b.l ≠ [] ∧ a.l.length + b.l.length ≤ sizeLine) ∧ post ⟨a.l ++ b.l⟩) :=
  ⟨op_catF, fun rs G H x y a b post ep Q w hx hy φ k => by
    obtain ⟨p, vs, o, rfl, h1, h2, h3, h4⟩ := hx
    obtain ⟨q, us, rfl, h5, h6, h7⟩ := hy
    obtain ⟨⟨n1, n2, z⟩, φ⟩ := φ
    have l1 := h3.length
    have l2 := h6.length
    refine ⟨p, q, vs, us, rfl, rfl, .inl (.inr ⟨o, w.s p _ h1⟩), w.s.st h5, fun e => n1 ?_, fun e => n2 ?_, by omega, fun r o' hr ho => ?_⟩
    · rw [e] at l1
      exact List.eq_nil_of_length_eq_zero l1.symm
    · rw [e] at l2
      exact List.eq_nil_of_length_eq_zero l2.symm
    · have g := gr_new (o := .frz o' (.tup (vs ++ us))) w hr
      exact k _ _ _ _ g ⟨r, _, o', rfl, upd_same, ho, (h3.append h6).mono g.g, by rw [List.length_append]; omega⟩ φ⟩
/-- t[lo:hi] -/
def rSlF (K : Fg) : V → Option Int → Option Int → Hp → VK → Prop := fun x lo hi H Q => ∃ a xs, x = .ref a ∧ SqT K H a xs ∧
  (HT.sIx xs.length 0 lo = 0 ∧ HT.sIx xs.length xs.length hi = xs.length → Q (.ref a) H) ∧ (¬ (HT.sIx xs.length 0 lo = 0 ∧ HT.sIx xs.length xs.length hi = xs.length) → ∀ p o, H p = none → o.dict = none → Q (.ref p) (upd H p (.frz o (.tup (cutV xs lo hi)))))
theorem sl_tupF : SlR X (rSlF X.K) := by
  intro pins s σ H x v vl vu lo hi sl Q I rx hs pl pu h
  obtain ⟨a, xs, rfl, hx, q1, q2⟩ := h
  cases rx
  obtain ⟨its, r, ht, hz⟩ := I.tuple hx
  have hlen : its.toArray.size = xs.length := by rw [List.size_toArray]; exact r.length.symm
  refine ⟨"tuple", _, slot_tuple_getitem.lookup, ht.typeIs, ?_⟩
  by_cases hw : HT.sIx xs.length 0 lo = 0 ∧ HT.sIx xs.length xs.length hi = xs.length
  · exact getItem_tuple_whole ht hs pl pu (by rw [hlen]; exact hw) ⟨.ref a, H, I, rfl, q1 hw⟩
  · refine HT.getItem_tuple_cut ht hs pl pu (by rw [hlen]; exact hw) ?_ (by rw [hlen]; exact hz)
    rw [hlen]
    refine ⟨.ref s.heap.objs.size, _, I.laid (t' := s.toks) (o := .frz { cls := .type "tuple", data := .seq ((its.drop (HT.sIx xs.length 0 lo)).take (HT.sIx xs.length xs.length hi - HT.sIx xs.length 0 lo)).toArray } (.tup (cutV xs lo hi))) (fun b ob q => Heap.get?_push_of_some _ q) (Nat.le_refl _) ?_, rfl, q2 hw _ _ (I.hok.fresh (Nat.le_refl _)) rfl⟩
    exact ⟨Heap.get?_push_size _ rfl, Nat.le_trans (cutV_length xs lo hi) hz, _, (r.drop (HT.sIx xs.length 0 lo)).take (HT.sIx xs.length xs.length hi - HT.sIx xs.length 0 lo), IsTup.new _ _⟩
theorem sl_F : SlW X (rpF (i := i)) (rpF (i := i)) (rSlF X.K) (fun xs lo hi post _ => post ⟨cutL xs.l lo hi⟩) :=
  ⟨sl_tupF, fun rs G H x a lo hi post ep Q w r φ k => by
    obtain ⟨l, vs, o, rfl, h1, h2, h3, h4⟩ := r
    refine ⟨l, vs, rfl, .inl (.inr ⟨o, w.s l _ h1⟩), fun q => ?_, fun q p o' hp ho => ?_⟩
    · have e : cutL a.l lo hi = a.l := by
        unfold cutL
        rw [← h3.length, q.1, q.2, List.drop_zero, Nat.sub_zero, h3.length, List.take_length]
      exact k G H _ ⟨cutL a.l lo hi⟩ (Gr.refl w) ⟨l, vs, o, rfl, h1, h2, by rw [e]; exact h3, h4⟩ φ
    · have g := gr_new (o := .frz o' (.tup (cutV vs lo hi))) w hp
      exact k _ _ _ _ g ⟨p, _, o', rfl, upd_same, ho, (h3.cut lo hi).mono g.g, Nat.le_trans (cutV_length _ _ _) h4⟩ φ⟩
/-- t.index(x), texts -/
def tIdxF (K : Fg) (te ta : TE) : TE := fun σ H Q => te σ H fun x H1 => ∃ (p : Addr) (ys : List Str) (o : Obj), x = .ref p ∧ H1 p = some (.frz o (.tup (ys.map V.str))) ∧ o.dict = none ∧ ta σ H1 fun u H2 => ∃ (z : Str) (j : Nat), [u] = [V.str z] ∧ SqT K H2 p (ys.map V.str) ∧ ys[j]? = some z ∧ (∀ m, m < j → ys[m]? ≠ some z) ∧ Q (.int (j : Nat)) H2
theorem pe_idxF {pa : Pos} (he : PE X e te) (ha : PE X a ta)
    (hbase : attributeBase e "index" X.env (eval e X.env) = eval e X.env := by rfl)
    (hfew : ((backTo pos (starEach [a] X.env)).all (fun x => !x.1) && (backToKw pos (keywordEach [] X.env)).all (fun x => x.1.isSome) && decide (([a] : List Expr).length + ([] : List Keyword).length + (if ([] : List Keyword).isEmpty then 0 else 1) < 30)) = true := by rfl)
    (hline : (pa.endLine == pos.line) = true := by rfl) (hst : starEach [a] X.env = (false, eval a X.env) :: starEach [] X.env := by rfl) : PE X (.Call (.Attribute e "index" pa) [a] [] pos) (tIdxF X.K te ta) := by
  refine ⟨fun pins s σ H Q I h => ?_⟩
  refine wpAny_Call_method_late hbase hfew hline rfl (thn (he.run pins s σ H _ I h) fun v s1 ⟨x, H1, I1, r1, q1⟩ => ?_)
  obtain ⟨p, ys, o, rfl, hp, hd, q2⟩ := q1
  cases r1
  obtain ⟨its, _, pl, _⟩ := I1.tuple (xs := ys.map V.str) (.inl (.inr ⟨o, hp⟩))
  have hg : s1.heap.get? p = some o := (I1.hok p _ hp).1
  refine ⟨"tuple", "tuple.index", PySem.F.plainAttrs_tuple, PySem.F.slot_tuple_index, PySem.F.type_tuple_index, pl.typeIs, fun b z => by cases z; exact ⟨o, hg, hd⟩, ?_⟩
  have hA := (pa_cons ha pa_nil hst).run pos pins s1 σ H1 (fun vs H2 => ∃ (z : Str) (j : Nat), vs = [V.str z] ∧ SqT X.K H2 p (ys.map V.str) ∧ ys[j]? = some z ∧ (∀ m, m < j → ys[m]? ≠ some z) ∧ Q (.int (j : Nat)) H2) I1 ?_
  · rw [hst] at hA ⊢
    refine Calls.callWith_builtin rfl (Calls.evalArgs_plain (thn hA fun us s2 ⟨vs, H2, I2, r2, z, j, ey, h1, h2, h3, q⟩ => ?_))
    subst ey
    exact mt_tup_index pins s2 σ H2 (.ref p) [.str z] (.ref p) us Q I2 rfl r2 ⟨p, ys, z, j, rfl, rfl, h1, h2, h3, q⟩
  · exact q2
theorem e_idxF {Φe : Pt (Tu Str)} {Φa : Pt Str} {pa : Pos} (he : JE X c e ρ (rpF (i := rpS)) te Φe) (ha : JE X c a ρ rpS ta Φa)
    (hbase : attributeBase e "index" X.env (eval e X.env) = eval e X.env := by rfl)
    (hfew : ((backTo pos (starEach [a] X.env)).all (fun x => !x.1) && (backToKw pos (keywordEach [] X.env)).all (fun x => x.1.isSome) && decide (([a] : List Expr).length + ([] : List Keyword).length + (if ([] : List Keyword).isEmpty then 0 else 1) < 30)) = true := by rfl)
    (hline : (pa.endLine == pos.line) = true := by rfl) (hst : starEach [a] X.env = (false, eval a X.env) :: starEach [] X.env := by rfl) :
    JE X c (.Call (.Attribute e "index" pa) [a] [] pos) ρ rpI (tIdxF X.K te ta) (fun post ep => Φe (fun xs => Φa (fun z => ∃ j : Nat, xs.l[j]? = some z ∧ (∀ m, m < j → xs.l[m]? ≠ some z) ∧ post (j : Int)) ep) ep) := by
  refine ⟨pe_idxF he.pe ha.pe hbase hfew hline hst, fun post ep φ G H σ w E Q k hx => ?_⟩
  refine he.sem _ _ φ G H σ w E _ (fun G1 H1 v m g1 r1 p1 => ?_) hx
  obtain ⟨l, vs, o, rfl, h1, h2, h3, h4⟩ := r1
  have ev := strs_map h3
  subst ev
  refine ⟨l, m.l, o, rfl, g1.w.s l _ h1, h2, ha.sem _ _ p1 G1 H1 σ g1.w (E.up g1) _ (fun G2 H2 u z g2 r2 p2 => ?_) (hx.up g1)⟩
  obtain ⟨j, e1, e2, p⟩ := p2
  exact ⟨z, j, by rw [show u = V.str z from r2], .inl (.inr ⟨o, g2.w.s l _ (g2.g l _ h1)⟩), e1, e2, k G2 H2 _ _ (g1.trans g2) rfl p⟩
instance noOF {α : Type} {i : Rp α} [n : NoO α i] : NoO (Tu α) (rpF (i := i)) := ⟨fun {K G v m l o} mo h r => by
  obtain ⟨a, vs, u, h1, h2, h3, h4, h5⟩ := r
  refine ⟨a, vs, u, h1, ?_, h3, Paired.mapP h4 fun _ _ q => n.hide mo h q, h5⟩
  rw [hide_ne fun z => ?_]
  · exact h2
  · rw [z, h] at h2
    cases h2
    rcases mo with ⟨_, z⟩ | ⟨_, z⟩ <;> cases z⟩
/-- x in (..), data -/
def rInTD (K : Fg) (n : Bool) : R2 := fun x y H Q => ∃ d ds, Dp K H x d ∧ Dp K H y (.tuple ds) ∧ SeqAt.shaped d = true ∧ SeqAt.shaped (.tuple ds) = true ∧ Q (.bl ((ds.any fun z => PyData.eqv z d) != n)) H
theorem lay_tup {ds : List PyData} (h : SeqAt.shaped (.tuple ds) = true) : PyData.canLayAll0 ds = true := by
  have := SeqAt.canLay_of_shaped h
  simpa only [PyData.canLay0] using this
theorem op_inTD (hu : X.A.units + 65 < cLine) : OpR X (compareOp .In) (rInTD X.K false) := by
  intro pins s σ H x y v u Q I rx ry h
  obtain ⟨d, ds, hd, he, sd, se, q⟩ := h
  obtain ⟨as, r1⟩ := Dp.reads I d x v hd rx
  obtain ⟨bs, r2⟩ := Dp.reads I (.tuple ds) y u he ry
  exact SeqAt.in_tuple_reads r2 r1 (lay_tup se) (SeqAt.canLay_of_shaped sd) (room_in_shaped sd hu) ⟨.bl _, H, I, rfl, by simpa using q⟩
theorem in_TD [DecidableEq α] [d : Dat α i] [e : DatE α i] (hu : X.A.units + 65 < cLine) (hd : d.dep + 1 ≤ 64 := by decide) : OpW X (compareOp .In) i (rpT (i := i)) rpB (rInTD X.K false) (fun a xs post _ => d.ok a ∧ (∀ m ∈ xs.l, d.ok m) ∧ post (decide (a ∈ xs.l))) :=
  ⟨op_inTD hu, fun rs G H x y a b post ep Q w hx hy φ k => by
    refine ⟨d.enc a, b.l.map d.enc, d.dp (Rp.mono w.s hx), (datT (i := i)).dp (Rp.mono w.s hy), shaped_of φ.1 (by omega), shaped_of (d := datT (i := i)) (m := b) φ.2.1 hd, k G H _ _ (Gr.refl w) ?_ φ.2.2⟩
    show V.bl _ = V.bl _
    congr 1
    rw [Bool.bne_false, List.any_map]
    have : ∀ l : List α, l.any ((fun z => PyData.eqv z (d.enc a)) ∘ d.enc) = decide (a ∈ l) := by
      intro l
      induction l with
      | nil => rfl
      | cons m l ih =>
        rw [List.any_cons, ih]
        show (PyData.eqv (d.enc m) (d.enc a) || _) = _
        rw [e.eqv]
        by_cases h : m = a
        · simp [h]
        · simp [h, Ne.symm h]
    exact this _⟩
/-- is, is not, truths -/
theorem is_B : OpW X (compareOp .Is) rpB rpB rpB (fun x y H Q => ∃ a b, x = .bl a ∧ y = .bl b ∧ Q (.bl (decide (a = b))) H) (fun a b post _ => post (decide (a = b))) :=
  ⟨op_is_bl, fun rs G H x y a b post ep Q w hx hy φ k => ⟨a, b, hx, hy, k G H _ _ (Gr.refl w) rfl φ⟩⟩
theorem isnot_B : OpW X (compareOp .IsNot) rpB rpB rpB (fun x y H Q => ∃ a b, x = .bl a ∧ y = .bl b ∧ Q (.bl (!decide (a = b))) H) (fun a b post _ => post (!decide (a = b))) :=
  ⟨op_isnot_bl, fun rs G H x y a b post ep Q w hx hy φ k => ⟨a, b, hx, hy, k G H _ _ (Gr.refl w) rfl φ⟩⟩
end

/-! ### triples -/
structure X3 (α β γ : Type) where
  x0 : α
  x1 : β
  x2 : γ
instance {α β γ : Type} [Nonempty α] [Nonempty β] [Nonempty γ] : Nonempty (X3 α β γ) := ⟨⟨Classical.choice inferInstance, Classical.choice inferInstance, Classical.choice inferInstance⟩⟩
abbrev rpX3 {α β γ : Type} {i0 : Rp α} {i1 : Rp β} {i2 : Rp γ} : Rp (X3 α β γ) := ⟨fun K G v m => ∃ a y0 y1 y2, v = .ref a ∧ SqT K G a [y0, y1, y2] ∧ i0.rp K G y0 m.x0 ∧ i1.rp K G y1 m.x1 ∧ i2.rp K G y2 m.x2, fun x h => by
  obtain ⟨a, y0, y1, y2, h0, h1, h2, h3, h4⟩ := h
  exact ⟨a, y0, y1, y2, h0, x.st h1, i0.mono x h2, i1.mono x h3, i2.mono x h4⟩⟩
section
variable {X : Cx} {c : Cn} {ρ : List Sl} {α β γ : Type} {i0 : Rp α} {i1 : Rp β} {i2 : Rp γ} {pos : Pos}
theorem e_tupX3 {e0 e1 e2 : Expr} {k0 : Nat} {t : TA} {Φ : Pt (α × β × γ × Unit)} (h : JA X c [e0, e1, e2] ρ (aCons i0 (aCons i1 (aCons i2 aNil))) t Φ) :
    JE X c (.Tuple [e0, e1, e2] k0 pos) ρ (rpX3 (i0 := i0) (i1 := i1) (i2 := i2)) (tTup t) (fun post ep => Φ (fun x => post ⟨x.1, x.2.1, x.2.2.1⟩) ep) := by
  refine ⟨pe_tup h.pe, fun post ep φ G H σ w E Q k hx => h.sem _ _ φ G H σ w E _ (fun G1 H1 vs x g1 r1 p => ?_) hx⟩
  obtain ⟨v0, v1, v2, rfl, h0, h1, h2⟩ := three3 (i := i0) (j := i1) (k := i2) r1
  refine ⟨by show 3 ≤ sizeLine; decide, fun q hq => ?_⟩
  have g := gr_new (o := .tup [v0, v1, v2]) g1.w hq
  exact k _ _ _ _ (g1.trans g) ⟨q, v0, v1, v2, rfl, SqT.of upd_same, i0.mono g.g h0, i1.mono g.g h1, i2.mono g.g h2⟩ p
theorem g_tupX3 {e0 e1 e2 : Expr} {g0 g1 g2 : TG} {j0 j1 j2 : List Nat} {f0 : α → List Sl → List Sl} {f1 : β → List Sl → List Sl} {f2 : γ → List Sl → List Sl} {k0 : Nat} (hc : X.calm = true) (h0 : JG X e0 i0 g0 j0 f0) (h1 : JG X e1 i1 g1 j1 f1) (h2 : JG X e2 i2 g2 j2 f2)
    (hs0 : (assignEach [e0, e1, e2] X.env).map (·.2) = assign e0 X.env :: (assignEach [e1, e2] X.env).map (·.2) := by rfl) (hs1 : (assignEach [e1, e2] X.env).map (·.2) = assign e1 X.env :: (assignEach [e2] X.env).map (·.2) := by rfl) (hs2 : (assignEach [e2] X.env).map (·.2) = assign e2 X.env :: (assignEach [] X.env).map (·.2) := by rfl)
    (hn : (assignEach [e0, e1, e2] X.env).length = 3 := by rfl) (hst : (assignEach [e0, e1, e2] X.env).findIdx? (·.1) = none := by rfl) :
    JG X (.Tuple [e0, e1, e2] k0 pos) (rpX3 (i0 := i0) (i1 := i1) (i2 := i2)) (gTup X.K 3 (gCons g0 (gCons g1 (gCons g2 gNil)))) (j0 ++ (j1 ++ j2)) (fun m ρ => f2 m.x2 (f1 m.x1 (f0 m.x0 ρ))) := by
  refine ⟨pg_tup hc (pgs_cons h0.pe (pgs_cons h1.pe (pgs_cons h2.pe pgs_nil hs2) hs1) hs0) hn hst, fun rs H0 G H σ ρ v m w E r Q k => ?_⟩
  obtain ⟨a, y0, y1, y2, rfl, h3, h4, h5, h6⟩ := r
  refine ⟨a, [y0, y1, y2], rfl, w.s.st h3, rfl, y0, [y1, y2], rfl, h0.sem rs H0 G H σ ρ y0 m.x0 w E h4 _ fun σ1 E1 w1 => ⟨y1, [y2], rfl, h1.sem rs H0 G H σ1 _ y1 m.x1 w E1 h5 _ fun σ2 E2 w2 => ⟨y2, [], rfl, h2.sem rs H0 G H σ2 _ y2 m.x2 w E2 h6 _ fun σ3 E3 w3 => ⟨rfl, k σ3 E3 fun vs h => ?_⟩⟩⟩⟩
  rw [w3 vs fun j hj => h j (List.mem_append_right _ (List.mem_append_right _ hj)), w2 vs fun j hj => h j (List.mem_append_right _ (List.mem_append_left _ hj)), w1 vs fun j hj => h j (List.mem_append_left _ hj)]
end

/-! ### range(a, b, c) -/
def rangeC (lo st : Int) (n : Nat) : List Int := (List.range n).map fun (k : Nat) => lo + (k : Int) * st
theorem walkG_rangeC {K : Fg} {lo st : Int} {n : Nat} : WalkG K rpI (Itc lo st n) (fun _ => True) (rangeC lo st n) := by
  have hl : (rangeC lo st n).length = n := by simp [rangeC]
  have hw : Walk (Itc lo st n) (rangeC lo st n).length (fun _ => True) (YFn fun i => .int (lo + i * st)) := by
    rw [hl]
    exact ⟨fun _ _ hi _ => hi, fun _ _ => Nat.le_refl _, fun _ _ _ _ _ _ y => y⟩
  refine ⟨fun _ _ _ h => h, _, _, hw, fun _ _ _ _ => trivial, fun rs j m G H x H' w h e y => ?_⟩
  obtain ⟨rfl, hx⟩ := y
  refine ⟨G, Gr.refl w, ?_⟩
  have q : j < n := by
    have := (List.getElem?_eq_some_iff.mp e).1
    rw [hl] at this
    exact this
  unfold rangeC at e
  rw [List.getElem?_map, List.getElem?_range q] at e
  cases e
  exact hx
section
variable {X : Cx} {c : Cn} {ρ : List Sl}
theorem i_rng3 {tg a b d : Expr} {p pos : Pos} {t : TA} {Φ : Pt (Int × Int × Int × Unit)} (hg : Gl X "range") (hm : X.mg "range" = none) (ha : JA X c [a, b, d] ρ (aCons rpI (aCons rpI (aCons rpI aNil))) t Φ)
    (hs : starEach [a, b, d] X.env = (false, eval a X.env) :: starEach [b, d] X.env := by rfl) (hpl : (backTo pos (starEach [b, d] X.env)).any (·.1) = false := by rfl) :
    JI X c tg (.Call (.Name "range" p) [a, b, d] [] pos) ρ rpI (iRng3 t) (fun post ep => Φ (fun n => ∃ k, RgC n.1 n.2.1 n.2.2.1 k ∧ post (rangeC n.1 n.2.2.1 k)) ep) := by
  refine ⟨pi_range3 hg hm ha.pe hs hpl, fun post ep φ G H σ w E R k hx => ha.sem _ _ φ G H σ w E _ (fun G1 H1 vs x g r p => ?_) hx⟩
  obtain ⟨v0, v1, v2, rfl, h0, h1, h2⟩ := three3 (i := rpI) (j := rpI) (k := rpI) r
  obtain rfl : v0 = .int x.1 := h0
  obtain rfl : v1 = .int x.2.1 := h1
  obtain rfl : v2 = .int x.2.2.1 := h2
  obtain ⟨n, hn, p⟩ := p
  exact ⟨_, _, _, n, rfl, hn, k G1 H1 _ _ _ g walkG_rangeC trivial p⟩
end
end Ty

set_option Elab.async false
set_option linter.all false
set_option maxRecDepth 100000
set_option maxHeartbeats 1000000
set_option autoImplicit false
/-! TzC: dict comprehensions -/
namespace Ty
open PySem PySem.Spec PyProof.Rows L2
theorem dc_it {J : It} {n : Nat} {Gd : Hp → Prop} {Y : Nat → Hp → V → Hp → Prop} (w : Walk J n Gd Y) {g : TG} {tt : TT} {tk tv : TE} {vs : List Nat} {σ : L2.St} {H1 : Hp} {D : Addr} {Qd : Hp → Prop} (Pv : Nat → Hp → Prop) (h0 : Pv 0 (upd H1 D (.dK []))) (hG : ∀ i H, i ≤ n → Pv i H → Gd H)
    (hs : ∀ i x H H', i < n → Pv i H → Y i H x H' → g x (wipe σ vs) H' fun σ2 H2 => wipe σ2 vs = wipe σ vs ∧ tt σ2 H2 fun b H3 =>
      if b = true then tk σ2 H3 fun y H4 => tv σ2 H4 fun z H5 => ∃ kvs k, y = kV k ∧ H5 D = some (.dK kvs) ∧ kvs.length < sizeLine ∧ Pv (i + 1) (upd H5 D (.dK (putK kvs k z))) else Pv (i + 1) H3) (hd : ∀ H, Pv n H → Qd H) :
    ∃ W : Nat → Nat → Hp → Prop, (∃ m, W 0 m (upd H1 D (.dK []))) ∧ ∀ i m H, W i m H →
      (J.stop i H ∧ Qd H) ∨ (J.go i H ∧ ∃ Nx : Hp → Prop, (∀ H', Nx H' → ∃ m', m' < m ∧ W (i + 1) m' H') ∧ ∀ x H', J.yld i H x H' → g x (wipe σ vs) H' fun σ2 H2 => wipe σ2 vs = wipe σ vs ∧ tt σ2 H2 fun b H3 =>
        if b = true then tk σ2 H3 fun y H4 => tv σ2 H4 fun z H5 => ∃ kvs k, y = kV k ∧ H5 D = some (.dK kvs) ∧ kvs.length < sizeLine ∧ Nx (upd H5 D (.dK (putK kvs k z))) else Nx H3) := by
  refine ⟨fun i m H => m = n - i ∧ i ≤ n ∧ Pv i H, ⟨n, by simp, Nat.zero_le _, h0⟩, ?_⟩
  rintro i m H ⟨rfl, hi, p⟩
  have q := hG i H hi p
  rcases Nat.lt_or_ge i n with hlt | hge
  · exact .inr ⟨w.goes i H hlt q, Pv (i + 1), fun H' p' => ⟨n - (i + 1), by omega, rfl, hlt, p'⟩, fun x H' y => hs i x H H' hlt p (w.yields i H x H' hlt q y)⟩
  · obtain rfl : i = n := by omega
    exact .inl ⟨w.stops H q, hd H p⟩
def dcP {α β κ : Type} (key : κ → Key) (Φt : α → Pt Bool) (Φk : α → Pt κ) (Φv : α → Pt β) (post : List (Key × β) → Prop) : List α → List (Key × β) → Prop
  | [], acc => post acc
  | x :: r, acc => Φt x (fun b => if b = true then Φk x (fun k => Φv x (fun v => dcP key Φt Φk Φv post r (putM acc (key k) v)) (fun _ => False)) (fun _ => False) else dcP key Φt Φk Φv post r acc) (fun _ => False)
theorem putM_len {α : Type} (kvs : List (Key × α)) (k : Key) (v : α) : (putM kvs k v).length ≤ kvs.length + 1 := by
  unfold putM
  split
  · rw [List.length_map]
    omega
  · rw [List.length_append, List.length_singleton]
    exact Nat.le_refl _
section
variable {X : Cx} {c : Cn} {ρ ρw : List Sl} {α β κ : Type} [Nonempty α] {iα : Rp α} {iβ : Rp β} {iκ : Rp κ} [kw : KeyW κ iκ] {kx vx tg iter : Expr} {ifs : List Expr} {scope : Scope} {own : List (Str × Nat)} {pos : Pos} {wi : TI} {g : TG} {js : List Nat} {f : α → List Sl → List Sl} {tt : TT} {tk tv : TE}
  {Φi : Pt (List α)} {Φt : α → Pt Bool} {Φk : α → Pt κ} {Φv : α → Pt β}
theorem wipe2 (us : List Nat) (τ : L2.St) : wipe (wipe τ us) us = wipe τ us := by
  have key : ∀ (vs : List Nat) (τ : L2.St) (j : Nat), j ∈ vs → (wipe τ vs).set j none = wipe τ vs := by
    intro vs
    induction vs with
    | nil => intro τ j h; cases h
    | cons b vs ih =>
      intro τ j h
      show ((wipe τ vs).set b none).set j none = (wipe τ vs).set b none
      by_cases e : j = b
      · rw [e, List.set_set]
      · rcases List.mem_cons.mp h with h | h
        · exact absurd h e
        · rw [List.set_comm _ _ (fun q => e q.symm), ih τ j h]
  have sub : ∀ (as bs : List Nat) (τ : L2.St), (∀ j ∈ as, j ∈ bs) → wipe (wipe τ bs) as = wipe τ bs := by
    intro as
    induction as with
    | nil => intro bs τ _; rfl
    | cons a as ih =>
      intro bs τ h
      show (wipe (wipe τ bs) as).set a none = wipe τ bs
      rw [ih bs τ fun j hj => h j (List.mem_cons_of_mem _ hj)]
      exact key bs τ a (h a List.mem_cons_self)
  exact sub us us τ fun j hj => hj
theorem e_dc (hc : X.calm = true) (hN : X.N.Nodup) (ok : BlkOk X.N X.env.scope scope own) (hjs : ∀ j ∈ js, j ∈ own.map (·.2)) (hw : wipeS ρ (own.map (·.2)) = ρw) (hi : JI X c tg iter ρ iα wi Φi)
    (hg : ∀ (s : Shared) (H : Hp) (C : Addr) (cl : List (Str × Addr)) (fp : List Addr), JG (X.blk s H scope (compEnvC scope cl C X.env) fp) tg iα g js f)
    (ht : ∀ (s : Shared) (H : Hp) (C : Addr) (cl : List (Str × Addr)) (fp : List Addr) (m : α), JTs (X.blk s H scope (compEnvC scope cl C X.env) fp) c.nox ifs (f m ρw) tt (Φt m))
    (hk : ∀ (s : Shared) (H : Hp) (C : Addr) (cl : List (Str × Addr)) (fp : List Addr) (m : α), JE (X.blk s H scope (compEnvC scope cl C X.env) fp) c.nox kx (f m ρw) iκ tk (Φk m))
    (hv : ∀ (s : Shared) (H : Hp) (C : Addr) (cl : List (Str × Addr)) (fp : List Addr) (m : α), JE (X.blk s H scope (compEnvC scope cl C X.env) fp) c.nox vx (f m ρw) iβ tv (Φv m)) (hs : ∀ x : Value, foldedSetIterable iter X.env x = pure x := by intro _; rfl) :
    JE X c (.DictComp kx vx [⟨tg, iter, ifs, 0⟩] scope pos) ρ (rpDi (i := iβ)) (tDc wi g tt tk tv (own.map (·.2))) (fun post ep => Φi (fun xs => xs.length ≤ sizeLine ∧ dcP kw.key Φt Φk Φv (fun kvs => post ⟨kvs⟩) xs []) ep) := by
  have m0 : α := Classical.choice inferInstance
  refine ⟨pe_dc hc hN hi.pe ok (fun s H C cl fp => (hg s H C cl fp).pe) (fun s H C cl fp => (ht s H C cl fp m0).pe) (fun s H C cl fp => (hk s H C cl fp m0).pe) (fun s H C cl fp => (hv s H C cl fp m0).pe) hs, fun post ep φ G H σ w E Q k hx => ?_⟩
  have sg := (hg X.s_0 X.H_0 0 [] []).sem
  have st := fun m => (ht X.s_0 X.H_0 0 [] [] m).sem
  have sk := fun m => (hk X.s_0 X.H_0 0 [] [] m).sem
  have sv := fun m => (hv X.s_0 X.H_0 0 [] [] m).sem
  refine hi.sem _ _ φ G H σ w E _ (fun G1 H1 J xs sst g1 wg hst p => ?_) hx
  obtain ⟨hz, p⟩ := p
  obtain ⟨Gd, Y, wk, hGd, hY⟩ := wg.go
  intro D hD
  obtain ⟨hHD, gD⟩ := fresh_in w g1 hD
  have xo : ∀ (G' H' : Hp) (σ' : L2.St), XOk X c.nox G' H' σ' (fun _ => False) := fun _ _ _ _ _ _ _ _ _ _ z => z.elim
  refine dc_it wk (fun n H' => ∃ (G' : Hp) (vs : List (Key × V)) (acc : List (Key × β)), Gr c.rs G1 H1 G' H' ∧ H' D = some (.dK vs) ∧ KvAll iβ X.K G' vs acc ∧ acc.length ≤ n ∧ G' D = none ∧ ¬ c.rs.S H' D ∧ dcP kw.key Φt Φk Φv (fun kvs => post ⟨kvs⟩) (xs.drop n) acc) ?_ ?_ ?_ ?_
  · exact ⟨G1, [], [], gr_newH g1.w hD, upd_same, .nil, Nat.le_refl _, gD, not_new g1.w hD, p⟩
  · rintro n H' _ ⟨G', vs, acc, g', _⟩
    exact hGd G' H' g'.w.s (wg.mono _ _ g'.g hst)
  · rintro n x H' H'' hn ⟨G', vs, acc, g', hd, hr, hl, hgD, hsD, p'⟩ y
    obtain ⟨G2, g2, r2⟩ := hY c.rs n _ G' H' x H'' g'.w (wg.mono _ _ g'.g hst) (List.getElem?_eq_getElem hn) y
    rw [List.drop_eq_getElem_cons hn] at p'
    have E2 : En X.K c.rs c.H0 G2 H'' (L2.wipe σ (own.map (·.2))) ρw := hw ▸ ((((E.up g1).up g').up g2)).wipe _
    refine sg c.rs c.H0 G2 H'' _ ρw x _ g2.w E2 r2 _ fun σ3 E3 w3 => ⟨by rw [w3 _ hjs]; exact wipe2 _ _, ?_⟩
    have g3 := g'.trans g2
    have keep : ∀ {Ga Ha Gb Hb : Hp}, Gr c.rs Ga Ha Gb Hb → Ha D = some (.dK vs) → Ga D = none → ¬ c.rs.S Ha D → Hb D = some (.dK vs) ∧ Gb D = none ∧ ¬ c.rs.S Hb D := fun {Ga Ha Gb Hb} gg h1 h2 h3 => by
      refine ⟨gg.h D _ h3 h1, gg.n D (some_ne h1) h2, fun z => ?_⟩
      rcases gg.f D z with q | q
      · exact h3 q
      · rw [q] at h1
        cases h1
    obtain ⟨d1, d2, d3⟩ := keep g2 hd hgD hsD
    refine st _ _ _ p' G2 H'' σ3 g2.w E3 _ (fun G4 H4 m g4 p4 => ?_) (xo _ _ _)
    obtain ⟨e1, e2, e3⟩ := keep g4 d1 d2 d3
    have g34 := g3.trans g4
    cases m with
    | false => exact ⟨G4, vs, acc, g34, e1, hr.mono (g2.g.trans g4.g), Nat.le_succ_of_le hl, e2, e3, p4⟩
    | true =>
      refine sk _ _ _ p4 G4 H4 σ3 g4.w (E3.up g4) _ (fun G5 H5 u key g5 r5 p5 => ?_) (xo _ _ _)
      obtain ⟨f1, f2, f3⟩ := keep g5 e1 e2 e3
      refine sv _ _ _ p5 G5 H5 σ3 g5.w ((E3.up g4).up g5) _ (fun G6 H6 v m g6 r6 p6 => ?_) (xo _ _ _)
      obtain ⟨k1, k2, k3⟩ := keep g6 f1 f2 f3
      have g346 := (g34.trans g5).trans g6
      have hvl : vs.length = acc.length := hr.length
      refine ⟨vs, kw.key key, kw.out r5, k1, by omega, G6, putK vs (kw.key key) v, putM acc (kw.key key) m, gr_mut g346 hD k2 k3 (some_ne k1), upd_same, (hr.mono (((g2.g.trans g4.g).trans g5.g).trans g6.g)).put r6, Nat.le_trans (putM_len _ _ _) (Nat.succ_le_succ hl), k2, fun z => ?_, p6⟩
      have e : ∀ a, c.rs.S H6 a → upd H6 D (.dK (putK vs (kw.key key) v)) a = H6 a := fun a ha => upd_ne fun q => k3 (q ▸ ha)
      exact k3 (((c.rs.loc g6.w.i e).2 D).mp z)
  · rintro H' ⟨G', vs, acc, g', hd, hr, hl, hgD, hsD, p'⟩
    rw [List.drop_length] at p'
    have gg := g1.trans g'
    have gf := gr_frz gg hHD hgD hsD hd
    exact k _ _ _ _ gf ⟨D, vs, rfl, upd_same, hr.mono (Ex.new hgD), by rw [hr.length]; omega⟩ p'
end
end Ty

set_option Elab.async false
set_option linter.all false
set_option maxRecDepth 100000
set_option maxHeartbeats 4000000
set_option autoImplicit false
/-! TzD: len(set(t)), t a tuple of different texts -/
namespace Ty
open PySem PySem.Spec PyProof.Rows L2
/-- the set that the first n of zs make -/
abbrev StrSet (P : Program) (w : World) (h : Heap) (a : Addr) (zs : List Str) (n : Nat) : Prop := h.SetOf (PySem.strKind P w) a (fun k => (zs.take n).any (· == k)) n
abbrev noSet (b : Bool) : Obj := { cls := .type "set", dict := none, data := .set #[] 0 (.fresh 0 0 b) }
theorem strSet_at {P : Program} {w : World} {h g : Heap} {a : Addr} {zs : List Str} {n : Nat} (S : StrSet P w h a zs n) (k : ∀ o, h.get? a = some o → g.get? a = some o) : StrSet P w g a zs n := by
  obtain ⟨o, es, ep, t, ho, r⟩ := S
  exact ⟨o, es, ep, t, k o ho, r⟩
theorem strSet_add {P : Program} {w : World} {h : Heap} {a : Addr} {zs : List Str} (nd : zs.Nodup) {i : Nat} (hi : i < zs.length)
    (S : h.SetOf (PySem.strKind P w) a (fun k => (zs.take i).any (· == k) || decide (k = zs[i])) (if (zs.take i).any (· == zs[i]) then i else i + 1)) : StrSet P w h a zs (i + 1) := by
  have no : (zs.take i).any (· == zs[i]) = false := by
    cases e : (zs.take i).any (· == zs[i]) with
    | false => rfl
    | true =>
      obtain ⟨x, hx, ex⟩ := List.any_eq_true.mp e
      obtain ⟨j, hj, ej⟩ := List.getElem_of_mem hx
      rw [List.length_take] at hj
      rw [List.getElem_take] at ej
      exact absurd (ej.trans (beq_iff_eq.mp ex)) (List.pairwise_iff_getElem.mp nd j i (by omega) hi (by omega))
  rw [no] at S
  refine SetOf_congr S (fun k => ?_) (by simp)
  rw [List.take_succ_eq_append_getElem hi, List.any_append]
  congr 1
  show decide (k = zs[i]) = (zs[i] == k || false)
  by_cases e : k = zs[i]
  · rw [e]
    simp
  · have e2 : (zs[i] == k) = false := by simpa using fun z : zs[i] = k => e z.symm
    rw [e2, decide_eq_false e]
    rfl
section
variable {P : Program} {w : World} {A : Around} {E : Value → Shared → Prop} {s : Shared}
theorem strs_loop {R : Result → Shared → Prop} {it : Addr} {fp wr : List Addr} {G : Array GenState → Array GenState → Prop} {n : Nat} {Pv : Nat → Value → Prop} {St : Nat → Shared → Prop} (W : WalksS P w A.in1 it fp wr G n Pv St) (a : Addr) (ha : a ∉ fp) (zs : List Str) (hz : zs.length = n) (hb : n + 1 < scanBound) (nd : zs.Nodup)
    (hv : ∀ i v, Pv i v → ∃ k t, zs[i]? = some k ∧ v = .str k t) :
    ∀ (m i : Nat) (s : Shared), n - i = m → i ≤ n → St i s → StrSet P w s.heap a zs i → (∀ u, Moved (a :: wr) G s u → StrSet P w u.heap a zs n → R (.ok (.ret .none)) u) →
      codeAny (model P w) A (.builtin "set.update.loop" ⟨[.ref a, .ref it], []⟩) R s := by
  have hw : a ∉ wr := fun h => ha (W.sub _ h)
  have sub : ∀ b ∈ wr, b ∈ a :: wr := fun b h => List.mem_cons_of_mem _ h
  intro m
  induction m with
  | zero =>
    intro i s hm hi st S k
    obtain rfl : i = n := by omega
    refine codeAny_builtin PyProof.Rows.F.entry_set_update_loop ?_
    rw [Around.under_plainId PyProof.Rows.F.plain_set_update_loop _]
    show wpAny _ A.in1 (pyNext (.ref it) >>= _) _ _ s
    refine wpAny_bind (W.done s _ _ st fun u mv => ?_)
    exact wpAny_pure (k u (mv.mono sub) (strSet_at S fun o e => mv.heap a o hw e))
  | succ m ih =>
    intro i s hm hi st S k
    have lt : i < n := by omega
    refine codeAny_builtin PyProof.Rows.F.entry_set_update_loop ?_
    rw [Around.under_plainId PyProof.Rows.F.plain_set_update_loop _]
    show wpAny _ A.in1 (pyNext (.ref it) >>= _) _ _ s
    refine wpAny_bind (W.item i s _ _ lt st fun v u pv st2 mv => ?_)
    obtain ⟨key, t, ek, rfl⟩ := hv i v pv
    obtain ⟨hlt, ek⟩ := List.getElem?_eq_some_iff.mp ek
    subst ek
    have S2 : StrSet P w u.heap a zs i := strSet_at S fun o e => mv.heap a o hw e
    show wpAny _ A.in1 (holding [Value.str zs[i] t] (setAdd a (.str zs[i] t)) >>= _) _ _ u
    refine wpAny_bind (wpAny_holding ?_)
    unfold setAdd
    refine wpAny_holding (wpAny_bind ((PySem.strKind P w).pyHash (k := zs[i]) (strKind_is _ _ _ _) ?_))
    refine wpAny_setAddHashed_of (knd := PySem.strKind P w) (s := { u with toks := u.toks + 1 }) (strKind_is _ _ _ _) rfl S2 (by omega) fun h2 sb S3 => ?_
    refine wpAny_pure ⟨plainId_quiet PyProof.Rows.F.plain_set_update_loop _, ih (i + 1) _ (by omega) lt (W.frame _ u _ _ st2 (Nat.le_succ _) fun b hb o e => ?_) (strSet_add nd hlt S3) fun u2 mv2 S4 => ?_⟩
    · rw [sb.2 b fun z : b = a => ha (z ▸ hb)]
      exact e
    · refine k u2 (Moved.trans W.gtrans ((mv.mono sub).then_heap (Nat.le_succ _) fun b o hb e => ?_) mv2) S4
      rw [sb.2 b fun z : b = a => hb (z ▸ List.mem_cons_self)]
      exact e
theorem set_of_strs {l : Addr} {vs : Array Value} {zs : List Str} {Q : Value → Shared → Prop} (hh : A.handled = none) (hl : s.heap.IsTuple l vs) (hi : StrsAre vs.toList zs) (hb : zs.length + 1 < scanBound) (nd : zs.Nodup)
    (k : ∀ (g : Heap) (tk : Nat), StrSet P w g s.heap.objs.size zs zs.length → (∀ b o, s.heap.get? b = some o → g.get? b = some o) → Q (.ref s.heap.objs.size) { s with heap := g, toks := tk }) :
    wpAny (model P w) A (call (.type "set") [.ref l]) Q E s := by
  obtain ⟨mc, mt, mro⟩ := PySem.F.called_set.mro
  have made := PySem.F.called_set.made
  have sub := PySem.F.called_set.sub
  have sz : zs.length = vs.size := by rw [← StrsAre.len_eq hi, Array.length_toList]
  refine wpAny_call (codeAny_of_tree (show wpAny _ _ (callAny (.type "set") _) _ _ _ from wpAny_pure ⟨Code.quiet_builtin _ (by decide +kernel), codeAny_builtin PySem.F.entry_type_call ?_⟩))
  rw [Around.under_plain (weight_type_call_type "set" [.ref l] []) rfl]
  have q1 := PySem.F.called_set.notType
  have q2 := PySem.F.called_set.canCreate
  have q3 := PySem.F.typeCall_set_1 (.ref l)
  repeat (any_goals (first | assumption | wp_step))
  refine codeAny_mono (code_set_new_1 (.ref l) (E := E) (Q₁ := fun v u => ∃ b : Bool, v = .ref s.heap.objs.size ∧ u = { s with heap := s.heap.push (noSet b) }) fun b => ⟨b, rfl, rfl⟩) fun r u hr => ?_
  cases r with
  | error e => exact hr
  | ok fl =>
    cases fl with
    | ret v =>
      obtain ⟨b, rfl, rfl⟩ := hr
      have new : (s.heap.push (noSet b)).get? s.heap.objs.size = some (noSet b) := Heap.get?_push_size _ rfl
      have ty : Shared.TypeIs { s with heap := s.heap.push (noSet b) } (.ref s.heap.objs.size) "set" := ⟨_, new, rfl⟩
      have q4 := PySem.F.called_set.init.lookup
      have q5 := PySem.F.called_set.init.bind (.ref s.heap.objs.size)
      repeat (any_goals (first | assumption | wp_step))
      refine codeAny_mono (codeAny_call_builtin (R := wants (fun r u => r = .none ∧ ∃ g tk, u = { s with heap := g, toks := tk } ∧ StrSet P w g s.heap.objs.size zs zs.length ∧ ∀ b o, s.heap.get? b = some o → g.get? b = some o) E) PySem.F.called_set.init.plain PySem.F.entry_set_init (check_set_init_1 ty ?_)) fun r2 u2 hr2 => ?_
      · obtain ⟨⟨oc, od, dt, os⟩, ho, hc, nl, hd⟩ := hl
        simp only at hc hd
        subst hc hd
        have ho2 : (s.heap.push (noSet b)).get? l = some { cls := .type "tuple", dict := od, data := .seq vs nl, slots := os } := Heap.get?_push_of_some _ ho
        have q6 := PySem.F.sub_tuple_set
        have q7 := PySem.F.sub_tuple_frozenset
        have q8 : (Value.type "tuple" == Value.type "dict") = false := by decide
        have tl : (s.heap.push (noSet b)).IsTuple l vs := ⟨_, ho2, rfl, nl, rfl⟩
        have lt : l < s.heap.objs.size := Heap.lt_size ho
        have z1 : (s.heap.push (noSet b)).objs.size = s.heap.objs.size + 1 := Heap.size_push ..
        unfold Builtin.«set.__init__» noKeywords Builtin.Frozenset.updateFrom
        generalize hPI : pyIter = PI
        wp_walk
        subst hPI
        refine wpAny_pyIter_tuple tl (wpAny_bind (wpAny_runValue ?_))
        have hh3 : A.in1.in1.in1.handled = none := by simp [hh]
        have ne : l ≠ (s.heap.push (noSet b)).objs.size := fun z => absurd (z.trans z1) (Nat.ne_of_lt (Nat.lt_succ_of_lt lt))
        have nf : s.heap.objs.size ∉ [(s.heap.push (noSet b)).objs.size, l] := by
          simp only [List.mem_cons, List.not_mem_nil, or_false, not_or]
          exact ⟨fun z => absurd (z.trans z1) (Nat.ne_of_lt (Nat.lt_succ_self _)), Nat.ne_of_gt lt⟩
        have hv : ∀ (i : Nat) (v : Value), vs[i]? = some v → ∃ key t, zs[i]? = some key ∧ v = .str key t := fun i v e => by
          have hlt : i < zs.length := by rw [sz]; exact (Array.getElem?_eq_some_iff.mp e).1
          obtain ⟨t, et⟩ := SS.strs_at hi i v (by rw [Array.getElem?_toList]; exact e)
          exact ⟨zs[i], t, List.getElem?_eq_getElem hlt, by rw [et, List.getD_eq_getElem?_getD, List.getElem?_eq_getElem hlt] <;> rfl⟩
        have it2 : ((s.heap.push (noSet b)).push { cls := .type "tuple_iterator", data := .fields #[.ref l, .int 0 0] }).get? s.heap.objs.size = some (noSet b) := Heap.get?_push_of_some _ new
        refine strs_loop ((Walks.tuple hh3 _ l ne vs).toS) s.heap.objs.size nf zs sz (by omega) nd hv (vs.size - 0) 0 _ (by omega) (Nat.zero_le _) ⟨⟨_, Heap.get?_push_size _ rfl, rfl, rfl⟩, tl.push _⟩ (SetOf_congr ((setObjOf_fresh (knd := PySem.strKind P w) b).setOf it2 (by unfold scanBound; omega)) (fun _ => rfl) rfl) fun u mv S => ?_
        obtain ⟨g, ug, ud, utk, uo⟩ := u
        obtain rfl : ug = s.gens := mv.gens
        obtain rfl : ud = s.drawn := mv.drawn
        obtain rfl : uo = s.os := mv.os
        refine wpAny_pure (show wpAny _ _ (ret Value.none) _ _ _ from wpAny_pure ⟨rfl, g, utk, rfl, by rw [sz]; exact S, fun x o e => ?_⟩)
        have hx : x < s.heap.objs.size := Heap.lt_size e
        refine mv.heap x o ?_ (Heap.get?_push_of_some _ (Heap.get?_push_of_some _ e))
        simp only [List.mem_cons, List.not_mem_nil, or_false, not_or]
        exact ⟨Nat.ne_of_lt hx, fun z => absurd (z.trans z1) (Nat.ne_of_lt (Nat.lt_succ_of_lt hx))⟩
      · cases r2 with
        | error e => exact hr2
        | ok fl2 =>
          cases fl2 with
          | ret r =>
            obtain ⟨rfl, g, tk, rfl, S, kp⟩ := hr2
            repeat (any_goals (first | assumption | wp_step))
            exact k _ _ S kp
          | _ => exact hr2.elim
    | _ => exact hr.elim
end
def tLenSetT (K : Fg) (te : TE) : TE := fun σ H Q => te σ H fun x H1 => ∃ (l : Addr) (zs : List Str), x = .ref l ∧ SqT K H1 l (zs.map V.str) ∧ zs.Nodup ∧ zs.length + 1 < scanBound ∧ Q (.int zs.length) H1
section
variable {X : Cx} {c : Cn} {ρ : List Sl} {e : Expr} {te : TE} {p p2 q pos : Pos}
theorem pe_lenSetT (hc : X.calm = true) (hg : Gl X "len") (hm : X.mg "len" = none) (hg2 : Gl X "set") (hm2 : X.mg "set" = none) (he : PE X e te) (na : starEach [e] X.env = (false, eval e X.env) :: starEach [] X.env := by rfl) :
    PE X (.Call (.Name "len" p) [.Call (.Name "set" p2) [e] [] q] [] pos) (tLenSetT X.K te) := by
  refine ⟨fun pins s σ H Q I h => Call_ (ld_blt I hg hm boot_len (callWith_builtin1 (args_cons ?_ rfl) rfl rfl))⟩
  refine Call_ (ld_blt I hg2 hm2 boot_set (callWith_type1 (args_cons (thn (he.run pins s σ H _ I h) fun v s1 ⟨x, H1, I1, r1, q1⟩ => args_nil ?_) na) na rfl))
  obtain ⟨l, zs, rfl, hq, nd, hb, q1⟩ := q1
  cases r1
  obtain ⟨its, r, pl, hz⟩ := I1.tuple hq
  refine set_of_strs (I1.ok.hd hc) pl (by simpa using strsAre_of r) hb nd fun g tk S kp => args_nil ?_
  obtain ⟨o, es, ep, t, ho, hex, hd, _, _, _, hf, hn⟩ := S
  have I2 : Inv X pins σ H1 { s1 with heap := g, toks := tk } := I1.kept kp
  exact call_len_set ho hex hd hf (by rw [hn] <;> unfold scanBound at hb <;> omega) ⟨.int zs.length, H1, I2.tok _, ⟨_, by rw [hn]⟩, q1⟩
theorem e_lenSetT {Φe : Pt (Tu Str)} (hc : X.calm = true) (hm : X.mg "len" = none) (hm2 : X.mg "set" = none) (he : JE X c e ρ (rpT (i := rpS)) te Φe) (na : starEach [e] X.env = (false, eval e X.env) :: starEach [] X.env := by rfl) (hg : Gl X "len" := by rfl) (hg2 : Gl X "set" := by rfl) :
    JE X c (.Call (.Name "len" p) [.Call (.Name "set" p2) [e] [] q] [] pos) ρ rpI (tLenSetT X.K te) (fun post ep => Φe (fun xs => (xs.l.Nodup ∧ xs.l.length < 4000) ∧ post (xs.l.length : Int)) ep) := by
  refine ⟨pe_lenSetT hc hg hm hg2 hm2 he.pe na, fun post ep φ G H σ w E Q k hx => he.sem _ _ φ G H σ w E _ (fun G1 H1 v m g1 r1 p1 => ?_) hx⟩
  obtain ⟨l, vs, rfl, h1, h2, h3⟩ := r1
  have ev := strs_map h2
  subst ev
  exact ⟨l, m.l, rfl, g1.w.s.st h1, p1.1.1, by unfold scanBound; omega, k G1 H1 _ _ g1 rfl p1.2⟩
end
end Ty

set_option Elab.async false
set_option linter.all false
set_option maxRecDepth 100000
set_option maxHeartbeats 1000000
set_option autoImplicit false
/-! HkT: the head's hook, with dicts of the module; data that stands in the module -/
namespace Ty
open PySem PySem.Spec PyProof.Rows L2 NdefX ClX He
/-! ### data of the module -/
inductive Kd where
  | i (n : Int)
  | s (z : Str)
  | t (ds : List Kd)
mutual
def kdB (K : Fg) : Kd → Value → Bool
  | .i n, .int m _ => decide (m = n)
  | .s z, .str y _ => decide (y = z)
  | .t ds, .ref a => (match K.lookup a with
    | some ⟨.type c, _, .seq vs _, _⟩ => decide (c = "tuple") && (decide (vs.size ≤ 1000) && kdBs K ds vs.toList)
    | _ => false)
  | _, _ => false
def kdBs (K : Fg) : List Kd → List Value → Bool
  | [], [] => true
  | d :: ds, v :: vs => kdB K d v && kdBs K ds vs
  | _, _ => false
end
mutual
inductive KdV (K : Fg) : V → Kd → Prop
  | i (n : Int) : KdV K (.int n) (.i n)
  | s (z : Str) : KdV K (.str z) (.s z)
  | t {a : Addr} {vs : List V} {ds : List Kd} : (∀ H : Hp, SqT K H a vs) → vs.length ≤ sizeLine → KdVs K vs ds → KdV K (.ref a) (.t ds)
inductive KdVs (K : Fg) : List V → List Kd → Prop
  | nil : KdVs K [] []
  | cons {v : V} {vs : List V} {d : Kd} {ds : List Kd} : KdV K v d → KdVs K vs ds → KdVs K (v :: vs) (d :: ds)
end
mutual
theorem kdB_ok {K : Fg} : ∀ {d : Kd} {u : Value}, kdB K d u = true → ∃ v, RelV v u ∧ KdV K v d
  | .i n, .int m t, h => ⟨.int n, ⟨t, by rw [of_decide_eq_true (show decide (m = n) = true by simpa [kdB] using h)]⟩, .i n⟩
  | .s z, .str y t, h => ⟨.str z, ⟨t, by rw [of_decide_eq_true (show decide (y = z) = true by simpa [kdB] using h)]⟩, .s z⟩
  | .t ds, .ref a, h => by
    unfold kdB at h
    split at h
    · rename_i c od vs n osl q
      obtain ⟨h1, h⟩ := ba h
      obtain ⟨h2, h3⟩ := ba h
      obtain ⟨xs, r, k⟩ := kdBs_ok h3
      have e : c = "tuple" := of_decide_eq_true h1
      have hz : vs.size ≤ 1000 := of_decide_eq_true h2
      have hl : xs.length = vs.size := by rw [Vals.length r]; simp
      have hs : sizeLine = 2 ^ 24 := rfl
      refine ⟨.ref a, rfl, .t (fun H => .inr ⟨_, vs, n, q, by rw [e], rfl, by omega, r⟩) (by omega) k⟩
    · cases h
  | .i _, .none, h | .i _, .bool _, h | .i _, .str _ _, h | .i _, .ref _, h => by simp [kdB] at h
  | .s _, .none, h | .s _, .bool _, h | .s _, .int _ _, h | .s _, .ref _, h => by simp [kdB] at h
  | .t _, .none, h | .t _, .bool _, h | .t _, .int _ _, h | .t _, .str _ _, h => by simp [kdB] at h
theorem kdBs_ok {K : Fg} : ∀ {ds : List Kd} {us : List Value}, kdBs K ds us = true → ∃ vs, Vals vs us ∧ KdVs K vs ds
  | [], [], _ => ⟨[], .nil, .nil⟩
  | d :: ds, u :: us, h => by
    obtain ⟨h1, h2⟩ := ba (show (kdB K d u && kdBs K ds us) = true by simpa [kdBs] using h)
    obtain ⟨v, r, k⟩ := kdB_ok h1
    obtain ⟨vs, rs, ks⟩ := kdBs_ok h2
    exact ⟨v :: vs, .cons r rs, .cons k ks⟩
  | [], _ :: _, h => by simp [kdBs] at h
  | _ :: _, [], h => by simp [kdBs] at h
end
class OfKd (α : Type) (i : Rp α) where
  enc : α → Kd
  out : ∀ {K : Fg} {G : Hp} {v : V} {m : α}, KdV K v (enc m) → i.rp K G v m
instance : OfKd Int rpI := ⟨.i, fun h => by cases h; rfl⟩
instance : OfKd Str rpS := ⟨.s, fun h => by cases h; rfl⟩
theorem kdVs_all {α : Type} {i : Rp α} [o : OfKd α i] {K : Fg} {G : Hp} : ∀ {vs : List V} {ms : List α}, KdVs K vs (ms.map o.enc) → RpAll i K G vs ms
  | [], [], _ => .nil
  | _ :: _, [], h => by cases h
  | [], _ :: _, h => by cases h
  | v :: vs, m :: ms, h => by
    cases h with
    | cons a b => exact .cons (o.out a) (kdVs_all b)
instance {α : Type} {i : Rp α} [o : OfKd α i] : OfKd (Tu α) (rpT (i := i)) := ⟨fun m => .t (m.l.map o.enc), fun {K G v m} h => by
  cases h with
  | t h1 h2 h3 => exact ⟨_, _, rfl, h1 G, kdVs_all h3, h2⟩⟩
instance {α β : Type} {i : Rp α} {j : Rp β} [o : OfKd α i] [p : OfKd β j] : OfKd (α × β) (rp2 (i := i) (j := j)) := ⟨fun m => .t [o.enc m.1, p.enc m.2], fun {K G v m} h => by
  cases h with
  | t h1 h2 h3 =>
    cases h3 with
    | cons a h3 =>
      cases h3 with
      | cons b h3 =>
        cases h3
        exact ⟨_, _, _, rfl, h1 G, o.out a, p.out b⟩⟩
instance {α β γ : Type} {i : Rp α} {j : Rp β} {k : Rp γ} [o : OfKd α i] [p : OfKd β j] [q : OfKd γ k] : OfKd (X3 α β γ) (rpX3 (i0 := i) (i1 := j) (i2 := k)) := ⟨fun m => .t [o.enc m.x0, p.enc m.x1, q.enc m.x2], fun {K G v m} h => by
  cases h with
  | t h1 h2 h3 =>
    cases h3 with
    | cons a h3 =>
      cases h3 with
      | cons b h3 =>
        cases h3 with
        | cons c h3 =>
          cases h3
          exact ⟨_, _, _, _, rfl, h1 G, o.out a, p.out b, q.out c⟩⟩
section
variable {X : Cx} {c : Cn} {ρ : List Sl} {α : Type} {i : Rp α} {pos : Pos}
/-- a name of the module that stands for data -/
theorem e_gk [o : OfKd α i] {x : Str} {a : Addr} {m : α} (hm : X.mg x = some (.ref a)) (hk : kdB X.K (o.enc m) (.ref a) = true) (hg : Gl X x := by rfl) (hd : (x == ("__debug__" : Str)) = false := by decide) :
    JE X c (.Name x pos) ρ i (tC (.ref a)) (fun post _ => post m) := e_glob hm rfl (fun G => by
  obtain ⟨v, r, k⟩ := kdB_ok hk
  have e : v = .ref a := by
    cases v <;> first | (cases r; rfl) | (obtain ⟨_, r⟩ := r; cases r) | cases r
  exact o.out (e ▸ k)) hg hd
end

/-! ### a dict of the module -/
structure KTab (K : Fg) (w : World) (a : Addr) (kvs : List (Str × Kd)) : Prop where
  d : ∃ es n, KDict K w a es n
  at_ : ∀ kv ∈ kvs, ∃ u v, PySem.W.nsIn K a kv.1 = some (some u) ∧ RelV v u ∧ KdV K v kv.2
def tabB (K : Fg) (a : Addr) (kvs : List (Str × Kd)) : Bool := kvs.all fun kv => match PySem.W.nsIn K a kv.1 with
  | some (some u) => kdB K kv.2 u
  | _ => false
theorem tab_of {K : Fg} {w : World} {a : Addr} {kvs : List (Str × Kd)} (d : ∃ es n, KDict K w a es n) (h : tabB K a kvs = true) : KTab K w a kvs := ⟨d, fun kv hk => by
  have z : (match PySem.W.nsIn K a kv.1 with
    | some (some u) => kdB K kv.2 u
    | _ => false) = true := List.all_eq_true.mp h kv hk
  split at z
  · rename_i u q
    obtain ⟨v, r, k⟩ := kdB_ok z
    exact ⟨u, v, q, r, k⟩
  · cases z⟩
abbrev rpK (a : Addr) : Rp Unit := ⟨fun _ _ v _ => v = .ref a, fun _ h => h⟩
section
variable {X : Cx} {c : Cn} {ρ : List Sl} {α : Type} {i : Rp α} {pos : Pos} {a : Addr} {kvs : List (Str × Kd)}
theorem e_gtab {x : Str} (hm : X.mg x = some (.ref a)) (hg : Gl X x := by rfl) (hd : (x == ("__debug__" : Str)) = false := by decide) : JE X c (.Name x pos) ρ (rpK a) (tC (.ref a)) (fun post _ => post ()) := e_glob hm rfl (fun G => rfl) hg hd
def rKin (K : Fg) (a : Addr) (n : Bool) : R2 := fun x y H Q => ∃ (z : Str) (r : Option Value), x = .str z ∧ y = .ref a ∧ PySem.W.nsIn K a z = some r ∧ Q (.bl (r.isSome != n)) H
theorem nin_K (T : KTab X.K X.w a kvs) : OpW X (compareOp .NotIn) rpS (rpK a) rpB (rKin X.K a true) (fun z _ post _ => (∃ kv ∈ kvs, kv.1 = z) ∧ post false) := by
  obtain ⟨es, n, D⟩ := T.d
  refine ⟨fun pins s σ H x y v u Q I rx ry ⟨z, r, e1, e2, e3, q⟩ => op_notIn_kd D pins s σ H x y v u Q I rx ry ⟨z, r, e1, e2, e3, by cases r <;> exact q⟩, fun rs G H x y z b post ep Q w hx hy φ k => ?_⟩
  obtain ⟨⟨kv, hk, rfl⟩, p⟩ := φ
  obtain ⟨u, v, h1, h2, h3⟩ := T.at_ kv hk
  exact ⟨kv.1, some u, hx, hy, h1, k G H _ _ (Gr.refl w) rfl p⟩
theorem ix_K [o : OfKd α i] (T : KTab X.K X.w a kvs) : IxW X (rpK a) rpS i (rIxD X.K X.w) (fun _ z post _ => ∃ m : α, (z, o.enc m) ∈ kvs ∧ post m) := by
  obtain ⟨es, n, D⟩ := T.d
  refine ⟨ix_kdict, fun rs G H x y b z post ep Q w hx hy φ k => ?_⟩
  obtain ⟨m, hk, p⟩ := φ
  obtain ⟨u, v, h1, h2, h3⟩ := T.at_ _ hk
  exact ⟨a, z, v, hx, hy, ⟨es, n, u, D.at_, D.lit, h1, h2⟩, k G H _ _ (Gr.refl w) (o.out h3) p⟩
end

/-! ### the hook -/
structure SaysST (fa : List Fa) (fn : List DefD) (fs : List DefS) (file : Str) (ex : Fg → Bool) (ts : List Tab) (w : World) (K : Fg) : Prop where
  s : SaysS fa fn fs file ex K
  t : ts.map (fun t => dicW K (t.1 K)) = ts.map fun t => some (keysIn w.params t.2)
theorem SaysST.tab {fa : List Fa} {fn : List DefD} {fs : List DefS} {file : Str} {ex : Fg → Bool} {ts : List Tab} {w : World} {K : Fg} (c : SaysST fa fn fs file ex ts w K) (i : Nat) {t : Tab} (h : ts[i]? = some t := by rfl) : ∃ es n, KDict K w (t.1 K) es n := by
  have e : (ts.map fun t => dicW K (t.1 K))[i]? = (ts.map fun t => some (keysIn w.params t.2))[i]? := by rw [c.t]
  rw [List.getElem?_map, List.getElem?_map, h] at e
  exact dicW_ok (Option.some.inj e)
abbrev AlST : Type := AlS × List (Option (List (Option (Str × Int))))
def obsST (n : Nat) (fa : List Fa) (fn : List DefD) (fs : List DefS) (file : Str) (ex : Fg → Bool) (ts : List Tab) (g : Addr → Option Obj) : AlST :=
  (obK fa fn fs file ex (frT g (asD g n ++ [cStatics])), ts.map fun t => dicW (frT g (asD g n ++ [cStatics])) (t.1 (frT g (asD g n ++ [cStatics]))))
def hookST (n : Nat) (fa : List Fa) (fn : List DefD) (fs : List DefS) (file : Str) (ex : Fg → Bool) (ts : List Tab) : PySem.W.Hook where
  α := AlST
  obs := fun s => obsST n fa fn fs file ex ts s.heap.get?
  val := fun w => ((valD fn, true, fs.map DefS.val), ts.map fun t => some (keysIn w.params t.2))
  says := fun w h => ∃ K : Fg, K.In h ∧ SaysST fa fn fs file ex ts w K
  of := fun _ _ e => by
    have e1 := congrArg (fun z : AlST => z.1.1) e
    have e2 := congrArg (fun z : AlST => z.1.2.1) e
    have e3 := congrArg (fun z : AlST => z.1.2.2) e
    have e4 := congrArg (fun z : AlST => z.2) e
    obtain ⟨h1, h2⟩ := ba e2
    exact ⟨_, frT_in, ⟨⟨e1, h1, e3, h2⟩, e4⟩⟩
  keeps := fun _ _ _ ⟨K, hK, c⟩ k => ⟨K, PySem.W.Frag.In.keeps hK k, c⟩
theorem obsST_eq {n : Nat} {fa : List Fa} {fn : List DefD} {fs : List DefS} {file : Str} {ex : Fg → Bool} {ts : List Tab} {g : Addr → Option Obj} {s : Shared} (h : ∀ a, g a = s.heap.get? a) : obsST n fa fn fs file ex ts g = (hookST n fa fn fs file ex ts).obs s := by
  have e : g = s.heap.get? := funext h
  subst e
  rfl
end Ty

set_option Elab.async false
set_option linter.all false
set_option maxRecDepth 100000
set_option maxHeartbeats 1000000
set_option autoImplicit false
/-! Bh: the bag [[numbers], number, ..], its first number not below 0, as a resource -/
namespace Ty
open PySem PySem.Spec PyProof.Rows L2

def bhC (N : Nat) (is : List Int) : Prop := is.length = N ∧ ∃ n r, is = n :: r ∧ 0 ≤ n
theorem bhC_set {N k : Nat} {is : List Int} {m : Int} (h : bhC N is) (hk : 0 < k) : bhC N (is.set k m) := by
  obtain ⟨h1, n, r, rfl, h2⟩ := h
  obtain ⟨j, rfl⟩ : ∃ j, k = j + 1 := ⟨k - 1, by omega⟩
  exact ⟨by rw [List.length_set]; exact h1, n, r.set j m, rfl, h2⟩
/-- a new bag, known for good -/
abbrev rpBh (N : Nat) : Rp Unit := ⟨fun K G v _ => ∃ (p l : Addr) (is ns : List Int), v = .ref p ∧ bhC N is ∧ G p = some (.lst (.ref l :: is.map V.int)) ∧ G l = some (.lst (ns.map V.int)), fun e h => by
  obtain ⟨p, l, is, ns, h1, h2, h3, h4⟩ := h
  exact ⟨p, l, is, ns, h1, h2, e _ _ h3, e _ _ h4⟩⟩
theorem e_bh4 {X : Cx} {c : Cn} {ρ : List Sl} {es : List Expr} {t : TA} {pos : Pos} {Φ : Pt (List Int × Int × Int × Int × Int × Unit)} (h : JA X c es ρ (aCons (rpL (i := rpI)) (aCons rpI (aCons rpI (aCons rpI (aCons rpI aNil))))) t Φ) : JE X c (.List es pos) ρ (rpBh 4) (tLst t) (fun post ep => Φ (fun x => 0 ≤ x.2.1 ∧ post ()) ep) := by
  refine ⟨pe_lst h.pe, fun post ep φ G H σ w E Q k hx => h.sem _ _ φ G H σ w E _ (fun G1 H1 vs x g1 r1 p => ?_) hx⟩
  obtain ⟨xl, x1, x2, x3, x4, u⟩ := x
  obtain ⟨v, vs, rfl, a, r1⟩ : ∃ v us, vs = v :: us ∧ (rpL (i := rpI)).rp X.K G1 v xl ∧ ArgsOk X.K G1 us [.val rpI x1, .val rpI x2, .val rpI x3, .val rpI x4] := by
    cases r1 with
    | cons a b => cases a with
      | val a => exact ⟨_, _, rfl, a, b⟩
  obtain ⟨v1, v2, v3, v4, rfl, rfl, rfl, rfl, rfl⟩ := four4 (i0 := rpI) (i1 := rpI) (i2 := rpI) (i3 := rpI) r1
  obtain ⟨l, ws, rfl, e1, e2, e3⟩ := a
  rw [ints_of e2] at e1
  refine ⟨by show 5 ≤ sizeLine; decide, fun q hq => ?_⟩
  have g := gr_new (o := .lst [.ref l, .int x1, .int x2, .int x3, .int x4]) g1.w hq
  exact k _ _ _ _ (g1.trans g) ⟨q, l, [x1, x2, x3, x4], xl, rfl, ⟨rfl, _, _, rfl, p.1⟩, upd_same, g.g _ _ e1⟩ p.2

/-! ### the resource -/
def bhI (N : Nat) (q : Addr) (H : Hp) : Prop := ∃ (l : Addr) (is ns : List Int), bhC N is ∧ H q = some (.lst (.ref l :: is.map V.int)) ∧ H l = some (.lst (ns.map V.int))
def rsH (N : Nat) (q : Addr) : Rs := ⟨bxS q, bhI N q, by
  intro H H' i k
  obtain ⟨l, is, ns, h0, h1, h2⟩ := i
  have e1 : H' q = H q := k q (.inl rfl)
  have e2 : H' l = H l := k l (.inr ⟨_, h1⟩)
  refine ⟨⟨l, is, ns, h0, e1.trans h1, e2.trans h2⟩, fun a => ?_⟩
  unfold bxS
  rw [e1], by
  intro H a i s
  obtain ⟨l, is, ns, h0, h1, h2⟩ := i
  rcases s with rfl | ⟨t, s⟩
  · exact some_ne h1
  · rw [h1] at s
    cases s
    exact some_ne h2⟩
theorem gr_bh {N : Nat} {q l : Addr} {G H H' : Hp} {is ns : List Int} (w : Wd (rsH N q) G H) (hN : bhC N is) (hq : H' q = some (.lst (.ref l :: is.map V.int))) (hl : H' l = some (.lst (ns.map V.int))) (hn : bxS q H l)
    (keep : ∀ a o, a ≠ q → a ≠ l → H a = some o → H' a = some o) : Gr (rsH N q) G H G H' := by
  have nG : ∀ a, bxS q H a → G a = none := fun a h => w.n a h
  have fS : ∀ a, bxS q H' a → bxS q H a := fun a s => by
    rcases s with rfl | ⟨t, s⟩
    · exact .inl rfl
    · rw [hq] at s
      cases s
      exact hn
  refine ⟨Ex.refl _, fun a o hs e => keep a o (fun z => hs (.inl z)) (fun z => hs (z ▸ hn)) e, fun a e => ?_, fun a _ h => h, fun a s => .inl (fS a s), ⟨fun a o e => ?_, ⟨l, is, ns, hN, hq, hl⟩, fun a s => nG a (fS a s)⟩⟩
  · by_cases z : a = q
    · rw [z]
      exact some_ne hq
    · by_cases y : a = l
      · rw [y]
        exact some_ne hl
      · cases e2 : H a with
        | none => exact absurd e2 e
        | some o => exact some_ne (keep a o z y e2)
  · refine keep a o (fun z => ?_) (fun z => ?_) (w.s a o e)
    · rw [z, nG q (.inl rfl)] at e
      cases e
    · rw [z, nG l hn] at e
      cases e
section
variable {X : Cx} {c : Cn} {ρ : List Sl} {q : Addr} {x : Str} {px pk pos : Pos} {N : Nat}
/-- bag[k], a number -/
theorem e_bhI {k : Nat} {jj : Nat} (j : Nat) (hc : c.rs = rsH N q) (hρ : ρ[j]? = some (.rf q)) (hk : k < N) (hN : X.N[j]? = some x := by rfl) (hv : Vis X.env.scope x := by first | exact Or.inl rfl | exact Or.inr (Or.inl rfl) | exact Or.inr (Or.inr rfl))
    (hd : (x == ("__debug__" : Str)) = false := by decide) (hcd : (x == ("__classdict__" : Str)) = false := by decide) (hs : PlainIxT (.Constant (.int ((k + 1 : Nat) : Int)) jj pk) := by exact fun _ _ => rfl) : JE X c (.Subscript (.Name x px) (.Constant (.int ((k + 1 : Nat) : Int)) jj pk) pos) ρ rpI (tOp (rIxL X.K) (tVar j) (tC (.int ((k + 1 : Nat) : Int)))) (fun post _ => ∀ n : Int, post n) := by
  refine ⟨pe_ix ix_list (pe_var hN hv hd hcd) pe_int hs, fun post ep φ G H σ w E Q kk hx => ?_⟩
  have I := w.i
  rw [hc] at I
  obtain ⟨l, is, ns, h0, h1, h2⟩ := I
  obtain ⟨n, hn⟩ : ∃ n, is[k]? = some n := ⟨_, List.getElem?_eq_getElem (by rw [h0.1]; exact hk)⟩
  exact ⟨.ref q, E.ok j _ hρ, q, _, ((k + 1 : Nat) : Int), .int n, rfl, rfl, SqL.of h1, atI_cons (by rw [List.getElem?_map, hn]; rfl), kk G H _ n (Gr.refl w) rfl (φ n)⟩
variable {S L β : Type} {out : S → List Sl} {lp : L → List Sl} {i : Rp β} {rest : List Stmt} {tr : TS} {e : Expr} {te : TE} {Φe : Pt Int} {Φr : Pt (Out S L β)} {ps : Pos}
theorem b_bhSet {k : Nat} {jj : Nat} (j : Nat) (hc : c.rs = rsH N q) (hρ : ρ[j]? = some (.rf q)) (hk : k < N) (hk1 : 0 < k) (he : JE X c e ρ rpI te Φe) (hr : JB X c rest ρ out lp i tr Φr) (hN : X.N[j]? = some x := by rfl) (hv : Vis X.env.scope x := by first | exact Or.inl rfl | exact Or.inr (Or.inl rfl) | exact Or.inr (Or.inr rfl))
    (hd : (x == ("__debug__" : Str)) = false := by decide) (hcd : (x == ("__classdict__" : Str)) = false := by decide)
    (ha : ∀ v, assign (.Subscript (.Name x px) (.Constant (.int ((k + 1 : Nat) : Int)) jj pk) pos) X.env v = (do
      let ov ← holding [v] (eval (.Name x px) X.env)
      let iv ← holding [v, ov] (eval (.Constant (.int ((k + 1 : Nat) : Int)) jj pk) X.env)
      standAt pos
      holding [v, ov, iv] (setItem ov iv v)
      release [v, ov, iv] []) := by intro _; rfl)
    (hs : swapsWithSole [.Subscript (.Name x px) (.Constant (.int ((k + 1 : Nat) : Int)) jj pk) pos] e ps.line X.env = pure false := by rfl) (hw : swappedStores [.Subscript (.Name x px) (.Constant (.int ((k + 1 : Nat) : Int)) jj pk) pos] e X.env = pure none := by rfl)
    (hE : (assignEach [.Subscript (.Name x px) (.Constant (.int ((k + 1 : Nat) : Int)) jj pk) pos] X.env).map (·.2) = [assign (.Subscript (.Name x px) (.Constant (.int ((k + 1 : Nat) : Int)) jj pk) pos) X.env] := by rfl) :
    JB X c (.Assign [.Subscript (.Name x px) (.Constant (.int ((k + 1 : Nat) : Int)) jj pk) pos] e ps :: rest) ρ out lp i (tSeq (tAsg te (gSub (tVar j) (tC (.int ((k + 1 : Nat) : Int))) rSetL)) tr) (fun post ep => Φe (fun _ => Φr post ep) ep) := by
  refine ⟨pss_cons (ps_asg he.pe (pg_sub (pe_var hN hv hd hcd) pe_int set_list ha) hs hw hE) hr.pe, fun post ep φ G H σ g E D kk hx => ?_⟩
  refine he.sem _ _ φ G H σ g.w E _ (fun G1 H1 v m g1 r p => ?_) (hx.at g)
  obtain rfl : v = .int m := r
  have w1 : Wd (rsH N q) G1 H1 := hc ▸ g1.w
  obtain ⟨l, is, ns, h0, h1, h2⟩ := w1.i
  have lq : l ≠ q := fun z => by
    rw [z, h1] at h2
    have h3 := HO.lst.inj (Option.some.inj h2)
    cases ns with
    | nil => cases h3
    | cons n ns => cases h3
  have eset : (V.ref l :: is.map V.int).set (k + 1) (.int m) = V.ref l :: (is.set k m).map V.int := by rw [List.set_cons_succ, List.map_set]
  have gb : Gr c.rs G1 H1 G1 (upd H1 q (.lst (V.ref l :: (is.set k m).map V.int))) := hc ▸ gr_bh (l := l) (ns := ns) w1 (bhC_set h0 hk1) upd_same (by rw [upd_ne lq]; exact h2) (.inr ⟨_, h1⟩) (fun u o z _ e => by rw [upd_ne z]; exact e)
  refine ⟨.ref q, E.ok j _ hρ, q, _, ((k + 1 : Nat) : Int), k + 1, rfl, rfl, h1, ixNn (by rw [List.length_cons, List.length_map, h0.1]; omega), ?_⟩
  rw [eset]
  exact hr.sem _ _ p _ _ σ ((g.trans g1).trans gb) (E.up (g1.trans gb)) D (kk.up (g1.trans gb).g) hx
/-! ### if bag[2] == 0 and bag[1] < len(bag[0]): cell = bag[0][bag[1]]; bag[1] = bag[1] + 1; .. -/
def tAt (K : Fg) (k : Int) : TE := tOp (rIxL K) (tVar 0) (tC (.int k))
def tHd (K : Fg) (t1 : TS) : TS := tIfS (tAnd (tTest (tOp rEq (tAt K 2) (tC (.int 0)))) (tTest (tOp (rI0 fun i j => .bl (decide (i < j))) (tAt K 1) (tCB (fun xs H Q => ∃ p ys, xs = [V.ref p] ∧ (SqL K H p ys ∨ SqT K H p ys) ∧ Q (.int ys.length) H) (tCons (tAt K 0) tNil)))))
  (tSeq (tAsg (tOp (rIxL K) (tAt K 0) (tAt K 1)) (gName 2)) (tSeq (tAsg (tOp (rI0 fun i j => .int (i + j)) (tAt K 1) (tC (.int 1))) (gSub (tVar 0) (tC (.int 1)) rSetL)) t1)) tNext
theorem b_bhTake [Nonempty S] {N : Nat} {S' : Type} {s1 : Stmt} {many : Int} {ss : List Stmt} {t1 : TS} {Φ1 : Int → Pt (Out S L β)} {Φr : S → Pt (Out S' L β)} {mid : S → List Sl} {out' : S' → List Sl} (hc : c.rs = rsH (N + 2) q) (h0 : ρ[0]? = some (.rf q)) (hlen : 2 < ρ.length)
    (h1 : ∀ m, JB X c ss (ρ.set 2 (.val rpI m)) mid lp i t1 (Φ1 m)) (s0 : S) (he : EnLe ρ (mid s0)) (hps : ∀ t1, PSs X ss t1 → PS X s1 (tHd X.K t1)) (hr : ∀ s, JB X c rest (mid s) out' lp i tr (Φr s)) :
    JB X c (s1 :: rest) ρ out' lp i (tSeq (tHd X.K t1) tr) (fun post ep => (∀ m, Φ1 m (seqP Φr post ep) ep) ∧ Φr s0 post ep) := by
  refine ⟨pss_cons (hps t1 (h1 0).pe) (hr s0).pe, fun post ep φ G H σ g E D k hx => ?_⟩
  obtain ⟨φ1, φ2⟩ := φ
  have w0 : Wd (rsH (N + 2) q) G H := hc ▸ g.w
  obtain ⟨l, is, ns, ⟨n0, n, r, rfl, hn⟩, n1, n2⟩ := w0.i
  obtain ⟨y, r, rfl⟩ : ∃ y r', r = y :: r' := by
    cases r with
    | nil => simp at n0
    | cons y r => exact ⟨y, r, rfl⟩
  have hv := E.ok 0 _ h0
  have lq : l ≠ q := fun z => by
    rw [z, n1] at n2
    have h3 := HO.lst.inj (Option.some.inj n2)
    cases ns with
    | nil => cases h3
    | cons n ns => cases h3
  have a0 : ∀ (τ : L2.St) (H' : Hp) (v : V) (j : Nat) (Q : VK), τ[0]? = some (some (.ref q)) → H' q = some (.lst (.ref l :: .int n :: .int y :: r.map V.int)) → (V.ref l :: V.int n :: V.int y :: r.map V.int)[j]? = some v → Q v H' → tAt X.K (j : Int) τ H' Q := fun τ H' v j Q e1 e2 e3 p =>
    ⟨.ref q, e1, q, _, (j : Int), v, rfl, rfl, SqL.of e2, by unfold atI; rw [ixNn (List.getElem?_eq_some_iff.mp e3).1]; exact e3, p⟩
  have q1 : H q = some (.lst (.ref l :: .int n :: .int y :: r.map V.int)) := n1
  have fin : ∀ (G' H' : Hp) (σ' : L2.St) (s : S), Gr c.rs c.G0 c.H0 G' H' → Ex G G' → En X.K c.rs c.H0 G' H' σ' (mid s) → Φr s post ep → tr D σ' H' := fun G' H' σ' s g' x E' p => (hr s).sem _ _ p G' H' σ' g' E' D (k.up x) hx
  refine a0 σ H (.int y) 2 _ hv q1 rfl ⟨rfl, decide (V.int y = V.int 0), rfl, ?_⟩
  cases decide (V.int y = V.int 0) with
  | false => exact fin G H σ s0 g (Ex.refl _) (E.le he) φ2
  | true =>
    refine a0 σ H (.int n) 1 _ hv q1 rfl (a0 σ H (.ref l) 0 _ hv q1 rfl ⟨l, ns.map V.int, rfl, .inl (SqL.of n2), n, _, rfl, rfl, decide (n < ((ns.map V.int).length : Int)), rfl, ?_⟩)
    cases hd : decide (n < ((ns.map V.int).length : Int)) with
    | false => exact fin G H σ s0 g (Ex.refl _) (E.le he) φ2
    | true =>
      have lt : n < ((ns.map V.int).length : Int) := of_decide_eq_true hd
      rw [List.length_map] at lt
      obtain ⟨kk, rfl⟩ : ∃ kk : Nat, n = (kk : Int) := ⟨n.toNat, by omega⟩
      have hk : kk < ns.length := by omega
      refine a0 σ H (.ref l) 0 _ hv q1 rfl (a0 σ H (.int kk) 1 _ hv q1 rfl ⟨l, ns.map V.int, (kk : Int), .int ns[kk], rfl, rfl, SqL.of n2, ?_, ?_⟩)
      · unfold atI
        rw [List.length_map, ixNn hk]
        simp
      have hσ : 2 < σ.length := by rw [E.len]; exact hlen
      have v0 : (σ.set 2 (some (.int ns[kk])))[0]? = some (some (.ref q)) := by rw [List.getElem?_set_ne (by decide)]; exact hv
      refine a0 _ H (.int kk) 1 _ v0 q1 rfl ⟨(kk : Int), 1, rfl, rfl, .ref q, v0, q, _, 1, 1, rfl, rfl, q1, ixNn (n := (V.ref l :: V.int (kk : Int) :: V.int y :: r.map V.int).length) (k := 1) (by simp), ?_⟩
      have gb : Gr c.rs G H G (upd H q (.lst (.ref l :: .int ((kk : Int) + 1) :: .int y :: r.map V.int))) := hc ▸ gr_bh (l := l) (is := ((kk : Int) + 1) :: y :: r) (ns := ns) w0 ⟨n0, _, _, rfl, by omega⟩ upd_same (by rw [upd_ne lq]; exact n2) (.inr ⟨_, n1⟩) (fun a o z _ e => by rw [upd_ne z]; exact e)
      refine (h1 ns[kk]).sem _ _ (φ1 _) G _ _ (g.trans gb) ((E.up gb).set (x := .val rpI ns[kk]) ⟨.int ns[kk], rfl, rfl⟩ rfl) _ ⟨?_, ?_, ?_, ?_⟩ hx
      · exact fun G' H' σ' s g' x E' p => fin G' H' σ' s g' x E' p
      · exact fun G' H' v b g' x rb p => k.rt G' H' v b g' x rb p
      · exact fun G' H' σ' b g' x E' p => k.bk G' H' σ' b g' x E' p
      · exact fun G' H' σ' b g' x E' p => k.ct G' H' σ' b g' x E' p
end

/-! ### a law that makes its bag first -/
theorem fn_okBh {P : Program} {w : World} {K : Fg} {mg : Str → Option Value} {base : Heap} {x qual : Str} {params : Arguments} {body rest : List Stmt} {s1 : Stmt} {scope : Scope} {f : Addr} {fd : FuncData} {N : List Str} {k n nb : Nat} {dvs : List V} {kws : List (Str × V)}
    (F : FunD K x qual params body scope dvs kws f fd) (hbd : body = s1 :: rest) (S : FnScope N ["script"] scope) (hn : n ≤ sizeLine) {Φr : Pt (Out Unit Empty Bool)} {Φe : List Int → Pt Unit}
    (hb1 : ∀ (cdv : Value) (A : Around) (outer : List Env) (s : Shared) (H : Hp) (E : XK), Room k (A.deeper (envOfC qual scope s.heap.objs.size f cdv)) →
      ∃ te, PS (Cf P w K mg base N qual scope f cdv A outer s H E) s1 (tAsg te (gName 1)) ∧ (∀ ns : List Int, JE (Cf P w K mg base N qual scope f cdv A outer s H E) (Cc rs0 H H E) (asgE s1) (.val rpQ ns :: List.replicate (N.length - 1) .no) (rpBh nb) te (Φe ns)))
    (hb2 : ∀ (cdv : Value) (A : Around) (outer : List Env) (s : Shared) (H : Hp) (E : XK), Room k (A.deeper (envOfC qual scope s.heap.objs.size f cdv)) →
      ∃ tr, ∀ (p : Addr) (H' : Hp), JB (Cf P w K mg base N qual scope f cdv A outer s H E) (Cc (rsH nb p) H H' E) rest ((List.replicate N.length Sl.no).set 1 (.rf p)) (fun _ : Unit => List.replicate N.length .no) (fun z : Empty => nomatch z) rpB tr Φr)
    (hΦe : ∀ ns, Φe ns (fun _ => True) (fun _ => False)) (hΦ : Φr (endP False fun b => b = true) (fun _ => False)) : FnOk P w K mg base (L2.CX P w) (k + 1) f fd ["script"] (spL K n) := by
  refine F.ok S (fun vs H Q E h => ?_) (fun cdv A outer s H vs Q E hr h => ?_)
  · obtain ⟨a, ns, rfl, _⟩ := h
    rfl
  · obtain ⟨a, ns, rfl, hS, hl, hO, hQ⟩ := h
    obtain ⟨te, hs, h1⟩ := hb1 cdv A outer s H E hr
    obtain ⟨tr, h2⟩ := hb2 cdv A outer s H E hr
    refine ⟨tSeq (tAsg te (gName 1)) tr, by rw [hbd]; exact pss_cons hs (h2 0 H).pe, ?_⟩
    have w0 : Wd rs0 H H := ⟨Ex.refl _, trivial, fun _ h => h.elim⟩
    have e0 : En K rs0 H H H (start N [.ref a]) (.val rpQ ns :: List.replicate (N.length - 1) .no) :=
      en_args (rs := rs0) (H0 := H) (H := H) (as := [.val rpQ ns]) (.cons (.val ⟨a, rfl, hS, Nat.le_trans hl hn⟩) .nil) (N.length - 1)
    refine (h1 ns).sem (fun _ => True) (fun _ => False) (hΦe ns) H H _ w0 e0 _ (fun G1 H1 v m g r _ => ?_) (fun _ _ _ _ _ _ _ z => z.elim)
    obtain ⟨p, l, is, ms, rfl, p0, p1, p2⟩ := r
    have fresh : ∀ b o, G1 b = some (.lst o) → H b = none := fun b o e => by
      rcases hO b with h | ⟨u, xs, h⟩
      · exact h
      · have := g.g b _ h
        rw [e] at this
        cases this
    have q1 := g.w.s _ _ p1
    have w2 : Wd (rsH nb p) H H1 := ⟨fun b o e => g.h b o (fun z => z) e, ⟨l, is, ms, p0, q1, g.w.s _ _ p2⟩, fun b s => by
      rcases s with rfl | ⟨t, s⟩
      · exact fresh _ _ p1
      · rw [q1] at s
        cases s
        exact fresh _ _ p2⟩
    have hlen : (start N [V.ref a]).length = N.length := by
      rw [e0.len]
      have hN : N.take 1 = [(Str.ofString "script")] := S.pre
      have : 1 ≤ N.length := by
        have := congrArg List.length hN
        simp at this
        omega
      simp
      omega
    refine (h2 p H1).sem _ _ hΦ H H1 _ (Gr.refl w2) ((en_none hlen).set (x := .rf p) rfl rfl) _ ⟨?_, ?_, ?_, ?_⟩ ?_
    · exact fun G' H' σ' s' g _ _ p => p.elim
    · intro G' H' v b g _ r pb
      obtain rfl : v = .bl b := r
      have pb : b = true := pb
      rw [pb]
      exact hQ H'
    · exact fun G' H' σ' l g _ _ p => p.elim
    · exact fun G' H' σ' l g _ _ p => p.elim
    · exact fun G' H' σ' cls d e g r p => p.elim
end Ty

set_option Elab.async false
set_option linter.all false
set_option maxRecDepth 100000
set_option maxHeartbeats 1000000
set_option autoImplicit false
/-! TzV: def f(a, *v) -/
namespace Ty
open PySem PySem.Spec PyProof.Rows L2
def spV (sp : Sp) : Sp := fun vs H Q E => ∃ ws rest, vs = ws ++ rest ∧ ws.length = 1 ∧ rest.length ≤ sizeLine ∧ ∀ p, H p = none → sp (ws ++ [V.ref p]) (upd H p (.tup rest)) Q E
section
variable {P : Program} {w : World} {K : Fg} {mg : Str → Option Value} {base : Heap} {x qual : Str} {params : Arguments} {body : List Stmt} {scope : Scope} {f : Addr} {fd : FuncData} {N : List Str} {k : Nat} {ι β : Type} {i : Rp β}
theorem fn_okV {p1 pv : Str} (F : FunD K x qual params body scope [] [] f fd) (S : FnScope N [p1, pv] scope)
    (h0 : ∀ (kV doc pm : Value) (an : Option Addr) (cdv ct : Value) (a : Value), bindArgs (PySem.W.fnOf x qual params body scope .none kV doc pm an cdv ct) ⟨[a], []⟩ = (newTuple [] >>= fun t => pure [(p1, a), (pv, t)]))
    (h1 : ∀ (kV doc pm : Value) (an : Option Addr) (cdv ct : Value) (a r : Value) (rs : List Value), bindArgs (PySem.W.fnOf x qual params body scope .none kV doc pm an cdv ct) ⟨a :: r :: rs, []⟩ = (newTuple (r :: rs) >>= fun t => pure [(p1, a), (pv, t)]))
    {as : ι → List Sl} {Φ : ι → Pt β} {Φb : ι → Pt (Out Unit Empty β)} (hl : ∀ y, (as y).length = 2)
    (hb : ∀ (y : ι) (cdv : Value) (A : Around) (outer : List Env) (s : Shared) (H G : Hp) (E : XK), Room k (A.deeper (envOfC qual scope s.heap.objs.size f cdv)) →
      ∃ tb, JB (Cf P w K mg base N qual scope f cdv A outer s H E) (Cc rs0 G H E) body (as y ++ List.replicate (N.length - 2) .no) (fun _ : Unit => List.replicate N.length .no) (fun z : Empty => nomatch z) i tb (Φb y))
    (hΦ : ∀ y post ep, Φ y post ep → Φb y (endP False post) ep) : FnR P w K mg base (L2.CX P w) (k + 1) f (spV (spOf K rs0 as i Φ)) := by
  obtain ⟨oc, od, dV, kV, doc, pm, an, cdv, ct, osl, rfl, lk, hcd, hD, _⟩ := F.ex
  obtain rfl : dV = .none := by
    rcases hD with ⟨_, e⟩ | ⟨e, _⟩
    · exact e
    · exact absurd rfl e
  refine StX.fn_star (ps := [p1]) (pv := pv) lk hcd S StX.cxUp (StX.bind_star1 (B := fun us => bindArgs (PySem.W.fnOf x qual params body scope .none kV doc pm an cdv ct) ⟨us, []⟩) (h0 kV doc pm an cdv ct) (h1 kV doc pm an cdv ct)) fun A outer s H vs Q E hr h => ?_
  obtain ⟨G, y, post, ep, wd, ha, φ, hq, hx⟩ := h
  obtain ⟨tb, J⟩ := hb y cdv A outer s H G E hr
  refine ⟨tb, J.pe, J.sem _ _ (hΦ y post ep φ) G H _ (Gr.refl wd) ?_ _ ⟨?_, ?_, ?_, ?_⟩ ?_⟩
  · have e := en_args (rs := rs0) (H0 := H) (H := H) ha (N.length - 2)
    unfold L2.start
    rw [show N.length - vs.length = N.length - 2 by rw [ha.len, hl]]
    exact e
  · exact fun G' H' σ' s' g _ _ p => p.elim
  · exact fun G' H' v b g _ r p => hq G' H' v b g r p
  · exact fun G' H' σ' l g _ _ p => p.elim
  · exact fun G' H' σ' l g _ _ p => p.elim
  · exact fun G' H' σ' cls d e g r p => hx G' H' cls d e g r p
end
def tCallR (sp : Sp) (t : TA) : TE := fun σ H Q => t σ H fun vs H1 => sp vs H1 Q fun _ _ _ => False
section
variable {X : Cx} {c : Cn} {ρ : List Sl} {α β γ ι : Type} {iα : Rp α} {iβ : Rp β} {iγ : Rp γ} {as : ι → List Sl} {g : ι → List β} {k : Nat} {f : Addr} {x : Str} {p pos : Pos} {e : Expr} {es : List Expr} {t : TA}
theorem pass_none : Passes (L2.CX X.prog X.w) X (fun _ _ _ => False) := fun pins σ H s e s' I q => by
  obtain ⟨_, _, _, _, _, _, _, _, _, _, _, _, z⟩ := q
  exact z.elim
theorem pe_callFR {sp : Sp} (F : FnR X.prog X.w X.K X.mg X.base (L2.CX X.prog X.w) k f sp) (hr : Room k X.A) (hg : Gl X x) (hm : X.mg x = some (.ref f)) (hk : PySem.W.keepIn X.K (.ref f) = true) (ha : PA X (e :: es) t) (hdb : (x == ("__debug__" : Str)) = false := by decide)
    (he : starEach (e :: es) X.env = (false, eval e X.env) :: starEach es X.env := by rfl) (hpl : (backTo pos (starEach es X.env)).any (·.1) = false := by rfl) : PE X (.Call (.Name x p) (e :: es) [] pos) (tCallR sp t) := by
  refine ⟨fun pins s σ H Q I h => wpAny_Call_Name_kw (ld_glob I hg hm ?_ hdb)⟩
  refine PySem.W.callWith_K (h₀ := X.base) I.ok.mod.kin hk (thn (ha.run pos pins s σ H _ I h) fun us s1 ⟨vs, H1, I1, r, q⟩ => ⟨I1.kIn, ?_⟩) he hpl
  exact wpAny_call (run_fnR F hr pass_none I1 r q)
/-- f(e, ..): what is behind the first is a tuple -/
theorem e_callV {Φa : Pt (α × ι)} {Φ : α × Tu β × Unit → Pt γ} (F : FnR X.prog X.w X.K X.mg X.base (L2.CX X.prog X.w) k f (spV (spOf X.K rs0 (aCons iα (aCons (rpT (i := iβ)) aNil)) iγ Φ))) (hr : Room k X.A) (hm : X.mg x = some (.ref f)) (hk : PySem.W.keepIn X.K (.ref f) = true)
    (ha : JA X c (e :: es) ρ (aCons iα as) t Φa) (hA : AllA iβ as g) (hg : Gl X x := by rfl) (hdb : (x == ("__debug__" : Str)) = false := by decide) (he : starEach (e :: es) X.env = (false, eval e X.env) :: starEach es X.env := by rfl) (hpl : (backTo pos (starEach es X.env)).any (·.1) = false := by rfl) :
    JE X c (.Call (.Name x p) (e :: es) [] pos) ρ iγ (tCallR (spV (spOf X.K rs0 (aCons iα (aCons (rpT (i := iβ)) aNil)) iγ Φ)) t) (fun post ep => Φa (fun y => (g y.2).length ≤ sizeLine ∧ Φ (y.1, ⟨g y.2⟩, ()) post (fun _ => False)) ep) := by
  refine ⟨pe_callFR F hr hg hm hk ha.pe hdb he hpl, fun post ep φ G H σ w E Q kk hx => ha.sem _ _ φ G H σ w E _ (fun G1 H1 vs y g1 r1 p1 => ?_) hx⟩
  obtain ⟨v, us, rfl, rv, ru⟩ : ∃ v us, vs = v :: us ∧ iα.rp X.K G1 v y.1 ∧ ArgsOk X.K G1 us (as y.2) := by
    cases r1 with
    | cons a b => cases a with
      | val a => exact ⟨_, _, rfl, a, b⟩
  have ra := hA.out ru
  refine ⟨[v], us, rfl, rfl, by rw [ra.length]; exact p1.1, fun q hq => ?_⟩
  have g2 := gr_new (o := .tup us) g1.w hq
  have w2 := g2.w.to0
  refine ⟨_, (y.1, ⟨g y.2⟩, ()), post, fun _ => False, w2, .cons (.val (iα.mono g2.g rv)) (.cons (.val ⟨q, us, rfl, SqT.of upd_same, ra.mono g2.g, by rw [ra.length]; exact p1.1⟩) .nil), p1.2, fun G' H' z m gg r p => ?_, fun _ _ _ _ _ _ _ z => z.elim⟩
  exact kk G' H' z m ((g1.trans g2).trans (gg.lift g2.w)) r p
end
end Ty

set_option Elab.async false
set_option linter.all false
set_option maxRecDepth 100000
set_option maxHeartbeats 1000000
set_option autoImplicit false
/-! TzW: small things -/
namespace Ty
open PySem PySem.Spec PyProof.Rows L2
theorem HU1 {k : Nat} {A : Around} (r : Room k A) : A.units + 1 < cLine := by have := r.un; omega
theorem HU65 {k : Nat} {A : Around} (r : Room k A) : A.units + 65 < cLine := by have := r.un; omega
section
variable {X : Cx}
theorem nin_Sg : OpW X (compareOp .NotIn) rpS rpS rpB (fun x y H Q => ∃ (c : Nat) (z : Str), x = .str ⟨#[c]⟩ ∧ y = .str z ∧ Q (.bl (!decide (c ∈ z.cps.toList))) H) (fun a b post _ => ∃ c : Nat, a = ⟨#[c]⟩ ∧ post (!decide (c ∈ b.cps.toList))) :=
  ⟨op_notIn_sign, fun rs G H x y a b post ep Q w hx hy φ k => by
    obtain ⟨c, rfl, p⟩ := φ
    exact ⟨c, b, hx, hy, k G H _ _ (Gr.refl w) rfl p⟩⟩
theorem list_Q : CallW X (.type "list") (aCons rpQ aNil) (rpL (i := rpI)) (rListOf X.K) (fun x post _ => post x.1) :=
  ⟨call_list_of, fun rs G H vs x post ep Q w ha φ k => by
    obtain ⟨v, rfl, l, rfl, h1, h2⟩ := one1 ha
    refine ⟨l, _, rfl, .inl (w.s.sl h1), fun p hp => ?_⟩
    have g := gr_new (o := .lst (x.1.map V.int)) w hp
    exact k _ _ _ _ g ⟨p, _, rfl, upd_same, rp_ints x.1, by rw [List.length_map]; exact h2⟩ φ⟩
theorem g_tup2k {K : Fg} {α β : Type} {i : Rp α} {j : Rp β} {e1 e2 : Expr} {g1 g2 : TG} {j1 j2 : List Nat} {f1 : α → List Sl → List Sl} {f2 : β → List Sl → List Sl} {k0 : Nat} {pos : Pos} (hK : X.K = K) (hc : X.calm = true) (h1 : JG X e1 i g1 j1 f1) (h2 : JG X e2 j g2 j2 f2)
    (hs1 : (assignEach [e1, e2] X.env).map (·.2) = assign e1 X.env :: (assignEach [e2] X.env).map (·.2) := by rfl) (hs2 : (assignEach [e2] X.env).map (·.2) = assign e2 X.env :: (assignEach [] X.env).map (·.2) := by rfl)
    (hn : (assignEach [e1, e2] X.env).length = 2 := by rfl) (hst : (assignEach [e1, e2] X.env).findIdx? (·.1) = none := by rfl) :
    JG X (.Tuple [e1, e2] k0 pos) (rp2 (i := i) (j := j)) (gTup K 2 (gCons g1 (gCons g2 gNil))) (j1 ++ j2) (fun m ρ => f2 m.2 (f1 m.1 ρ)) := by
  subst hK
  exact g_tup2 hc h1 h2 hs1 hs2 hn hst
end
section
variable {X : Cx} {c : Cn} {ρ : List Sl} {α κ : Type} {i : Rp α} {iκ : Rp κ} {a b : Expr} {ta tb : TE} {Φa : Pt (Di α)} {Φb : Pt κ} {pos : Pos}
theorem t_inDi [kw : KeyW κ iκ] (hu : X.A.units + 1 < cLine) (hb : JE X c b ρ iκ tb Φb) (ha : JE X c a ρ (rpDi (i := i)) ta Φa) (h1 : behindInMarks .In a = false := by rfl) :
    JT X c (.Compare b [.In] [a] pos) ρ (tB (tDIn tb ta)) (fun post ep => Φb (fun k => Φa (fun d => post (valM d.l (kw.key k)).isSome) ep) ep) := by
  have J := e_inDi (pos := pos) hu hb ha h1
  exact ⟨pt_cmp (pc_din hu hb.pe ha.pe) h1, fun post ep φ G H σ w E Q k hx => J.sem post ep φ G H σ w E _ (fun G' H' v m g r p => ⟨m, r, k G' H' m g p⟩) hx⟩
end
end Ty

set_option Elab.async false
set_option linter.all false
set_option maxRecDepth 100000
set_option maxHeartbeats 1000000
set_option autoImplicit false
/-! TzJ: cuts: what holds behind a test, a value, an if, is named once -/
namespace Ty
open PySem PySem.Spec L2
/-- some J holds behind Φ, and from J on all goes well -/
def CutP {α : Type} (Φ : Pt α) : Pt α := fun post ep => ∃ J : α → Prop, Φ J ep ∧ ∀ m, J m → post m
section
variable {X : Cx} {c : Cn} {ρ : List Sl} {S L β α : Type} {out : S → List Sl} {lp : L → List Sl} {i : Rp β} {iα : Rp α} {pos : Pos} {rest : List Stmt} {tr : TS} {e : Expr} {te : TE} {tt : TT}
theorem JE.cut {Φ : Pt α} (h : JE X c e ρ iα te Φ) : JE X c e ρ iα te (CutP Φ) :=
  ⟨h.pe, fun post ep ⟨J, a, b⟩ G H σ w E Q k hx => h.sem J ep a G H σ w E Q (fun G' H' v m g r p => k G' H' v m g r (b m p)) hx⟩
theorem JT.cut {Φ : Pt Bool} (h : JT X c e ρ tt Φ) : JT X c e ρ tt (CutP Φ) :=
  ⟨h.pe, fun post ep ⟨J, a, b⟩ G H σ w E Q k hx => h.sem J ep a G H σ w E Q (fun G' H' m g p => k G' H' m g (b m p)) hx⟩
theorem b_ifJ [Nonempty α] {t : Expr} {b1 b2 : List Stmt} {t1 t2 : TS} {Φt : Pt Bool} {Φ1 Φ2 : Pt (Out α L β)} {Φr : α → Pt (Out S L β)} {mid : α → List Sl} (ht : JT X c t ρ tt Φt) (h1 : JB X c b1 ρ mid lp i t1 Φ1) (h2 : JB X c b2 ρ mid lp i t2 Φ2) (hr : ∀ s, JB X c rest (mid s) out lp i tr (Φr s)) :
    JB X c (.If t b1 b2 pos :: rest) ρ out lp i (tSeq (tIfS tt t1 t2) tr) (fun post ep => ∃ J : Out α L β → Prop, Φt (fun k => if k = true then Φ1 J ep else Φ2 J ep) ep ∧ ∀ o, J o → seqP Φr post ep o) := by
  refine ⟨pss_cons (ps_if ht.pe h1.pe h2.pe) (hr (Classical.choice inferInstance)).pe, fun post ep ⟨J, φ, b⟩ G H σ g E D k hx => ?_⟩
  refine ht.sem _ _ φ G H σ g.w E _ (fun G1 H1 m g1 p => ?_) (hx.at g)
  have k := k.up g1.g
  have ends : EndsOk X c G1 i mid lp J { D with nx := tr D } :=
    ⟨fun G' H' σ' s g' x' E' p' => (hr s).sem _ _ (b _ p') G' H' σ' g' E' D (k.up x') hx, fun G' H' v m g' x' r p' => k.rt G' H' v m g' x' r (b _ p'), fun G' H' σ' l g' x' E' p' => k.bk G' H' σ' l g' x' E' (b _ p'), fun G' H' σ' l g' x' E' p' => k.ct G' H' σ' l g' x' E' (b _ p')⟩
  cases m with
  | true => exact h1.sem _ _ p G1 H1 σ (g.trans g1) (E.up g1) _ ends hx
  | false => exact h2.sem _ _ p G1 H1 σ (g.trans g1) (E.up g1) _ ends hx
end
/-- what is told of the ways that run through; the others end well -/
def nxJ {S S' L β : Type} (Q : S → Prop) (post : Out S' L β → Prop) : Out S L β → Prop
  | .nx s => Q s
  | .rt b => post (.rt b)
  | .bk l => post (.bk l)
  | .ct l => post (.ct l)
theorem nxJ_ok {S S' L β : Type} {Q : S → Prop} {Φr : S → Pt (Out S' L β)} {post : Out S' L β → Prop} {ep : Exn → Prop} (h : ∀ s, Q s → Φr s post ep) : ∀ o, nxJ Q post o → seqP Φr post ep o := fun o => match o with
  | .nx s => h s
  | .rt _ => id
  | .bk _ => id
  | .ct _ => id
end Ty

set_option Elab.async false
set_option linter.all false
set_option maxRecDepth 100000
set_option maxHeartbeats 0
set_option autoImplicit false
namespace K17
open PySem PySem.Spec PyProof.Rows L2 Ty
abbrev pw : Program := PySem.Challenge.pw_valvewise_k17_weak_side
def top (i : Nat) : Stmt := pw.main.body.getD i (.Pass ⟨0, 0, 0, 0⟩)
abbrev s_is_integer : Stmt := top 13
abbrev s_is_within : Stmt := top 14
abbrev s_is_string : Stmt := top 15
abbrev s_is_name : Stmt := top 16
abbrev s_is_tuple_of : Stmt := top 17
abbrev s_is_strings : Stmt := top 18
abbrev s_feeders : Stmt := top 22
abbrev s_check_part : Stmt := top 23
abbrev s_check_folds : Stmt := top 24
abbrev s_check_valves : Stmt := top 25
abbrev s_valve_cost : Stmt := top 26
abbrev s_valve_count : Stmt := top 27
abbrev s_joins : Stmt := top 28
abbrev s_is_path : Stmt := top 29
abbrev s_valve_loads : Stmt := top 30
abbrev s_list_value : Stmt := top 31
abbrev s_kind_of : Stmt := top 37
abbrev s_is_row_after : Stmt := top 39
abbrev s_is_full : Stmt := top 40
abbrev s_meets_conditions : Stmt := top 41
abbrev s_is_place : Stmt := top 42
abbrev s_joins_places : Stmt := top 43
abbrev s_is_valve_after : Stmt := top 44
abbrev s_is_pump_after : Stmt := top 45
abbrev s_is_unmetered : Stmt := top 46
abbrev s_names_of : Stmt := top 49
abbrev s_Works_init : Stmt := inClass (top 50) 7
abbrev s_Works_row_of : Stmt := inClass (top 50) 8
abbrev s_Works_ends_of : Stmt := inClass (top 50) 9
abbrev s_Works_contains : Stmt := inClass (top 50) 16
abbrev s_cost_of : Stmt := top 52
abbrev s_shows_open : Stmt := top 53
abbrev s_law_take : Stmt := top 55
abbrev s_law_stem : Stmt := top 56
abbrev s_law_name : Stmt := top 57
abbrev s_law_names : Stmt := top 58
abbrev s_law_place : Stmt := top 59
abbrev s_law_link : Stmt := top 60
abbrev s_law_instrument : Stmt := top 61
abbrev s_law_group : Stmt := top 62
abbrev s_law_rows : Stmt := top 63
abbrev s_law_far : Stmt := top 64
abbrev s_law_least : Stmt := top 65
abbrev s_law_value : Stmt := top 66
abbrev s_law_cost : Stmt := top 67
abbrev s_law_integer : Stmt := top 68
abbrev s_law_walk : Stmt := top 69
abbrev s_law_walks : Stmt := top 70
abbrev s_law_times : Stmt := top 71
abbrev s_law_parted : Stmt := top 72
abbrev s_law_values_right : Stmt := top 73
abbrev s_law_path_right : Stmt := top 74
abbrev s_law_crossing_set : Stmt := top 75
abbrev s_law : Stmt := top 76
def dd_is_integer : He.DefD := ⟨("is_integer", none), "is_integer", "is_integer", defArgs s_is_integer, defBody s_is_integer, defScope s_is_integer, [], []⟩
def dd_is_within : He.DefD := ⟨("is_within", none), "is_within", "is_within", defArgs s_is_within, defBody s_is_within, defScope s_is_within, [], []⟩
def dd_is_string : He.DefD := ⟨("is_string", none), "is_string", "is_string", defArgs s_is_string, defBody s_is_string, defScope s_is_string, [], []⟩
def dd_is_name : He.DefD := ⟨("is_name", none), "is_name", "is_name", defArgs s_is_name, defBody s_is_name, defScope s_is_name, [], []⟩
def dd_is_tuple_of : He.DefD := ⟨("is_tuple_of", none), "is_tuple_of", "is_tuple_of", defArgs s_is_tuple_of, defBody s_is_tuple_of, defScope s_is_tuple_of, [], []⟩
def dd_is_strings : He.DefD := ⟨("is_strings", none), "is_strings", "is_strings", defArgs s_is_strings, defBody s_is_strings, defScope s_is_strings, [], []⟩
def dd_feeders : He.DefD := ⟨("feeders", none), "feeders", "feeders", defArgs s_feeders, defBody s_feeders, defScope s_feeders, [], []⟩
def dd_check_part : He.DefD := ⟨("check_part", none), "check_part", "check_part", defArgs s_check_part, defBody s_check_part, defScope s_check_part, [], []⟩
def dd_check_folds : He.DefD := ⟨("check_folds", none), "check_folds", "check_folds", defArgs s_check_folds, defBody s_check_folds, defScope s_check_folds, [], []⟩
def dd_check_valves : He.DefD := ⟨("check_valves", none), "check_valves", "check_valves", defArgs s_check_valves, defBody s_check_valves, defScope s_check_valves, [], []⟩
def dd_valve_cost : He.DefD := ⟨("valve_cost", none), "valve_cost", "valve_cost", defArgs s_valve_cost, defBody s_valve_cost, defScope s_valve_cost, [], []⟩
def dd_valve_count : He.DefD := ⟨("valve_count", none), "valve_count", "valve_count", defArgs s_valve_count, defBody s_valve_count, defScope s_valve_count, [], []⟩
def dd_joins : He.DefD := ⟨("joins", none), "joins", "joins", defArgs s_joins, defBody s_joins, defScope s_joins, [], []⟩
def dd_is_path : He.DefD := ⟨("is_path", none), "is_path", "is_path", defArgs s_is_path, defBody s_is_path, defScope s_is_path, [], []⟩
def dd_valve_loads : He.DefD := ⟨("valve_loads", none), "valve_loads", "valve_loads", defArgs s_valve_loads, defBody s_valve_loads, defScope s_valve_loads, [], []⟩
def dd_list_value : He.DefD := ⟨("list_value", none), "list_value", "list_value", defArgs s_list_value, defBody s_list_value, defScope s_list_value, [], []⟩
def dd_kind_of : He.DefD := ⟨("kind_of", none), "kind_of", "kind_of", defArgs s_kind_of, defBody s_kind_of, defScope s_kind_of, [], []⟩
def dd_is_row_after : He.DefD := ⟨("is_row_after", none), "is_row_after", "is_row_after", defArgs s_is_row_after, defBody s_is_row_after, defScope s_is_row_after, [], []⟩
def dd_is_full : He.DefD := ⟨("_is_full", none), "_is_full", "_is_full", defArgs s_is_full, defBody s_is_full, defScope s_is_full, [], []⟩
def dd_meets_conditions : He.DefD := ⟨("_meets_conditions", none), "_meets_conditions", "_meets_conditions", defArgs s_meets_conditions, defBody s_meets_conditions, defScope s_meets_conditions, [], []⟩
def dd_is_place : He.DefD := ⟨("_is_place", none), "_is_place", "_is_place", defArgs s_is_place, defBody s_is_place, defScope s_is_place, [], []⟩
def dd_joins_places : He.DefD := ⟨("_joins_places", none), "_joins_places", "_joins_places", defArgs s_joins_places, defBody s_joins_places, defScope s_joins_places, [], []⟩
def dd_is_valve_after : He.DefD := ⟨("_is_valve_after", none), "_is_valve_after", "_is_valve_after", defArgs s_is_valve_after, defBody s_is_valve_after, defScope s_is_valve_after, [], []⟩
def dd_is_pump_after : He.DefD := ⟨("_is_pump_after", none), "_is_pump_after", "_is_pump_after", defArgs s_is_pump_after, defBody s_is_pump_after, defScope s_is_pump_after, [], []⟩
def dd_is_unmetered : He.DefD := ⟨("_is_unmetered", none), "_is_unmetered", "_is_unmetered", defArgs s_is_unmetered, defBody s_is_unmetered, defScope s_is_unmetered, [], []⟩
def dd_names_of : He.DefD := ⟨("_names_of", none), "_names_of", "_names_of", defArgs s_names_of, defBody s_names_of, defScope s_names_of, [], []⟩
def dd_Works_init : He.DefD := ⟨("Works", some "__init__"), "__init__", "Works.__init__", defArgs s_Works_init, defBody s_Works_init, defScope s_Works_init, [], []⟩
def dd_Works_row_of : He.DefD := ⟨("Works", some "row_of"), "row_of", "Works.row_of", defArgs s_Works_row_of, defBody s_Works_row_of, defScope s_Works_row_of, [], []⟩
def dd_Works_ends_of : He.DefD := ⟨("Works", some "ends_of"), "ends_of", "Works.ends_of", defArgs s_Works_ends_of, defBody s_Works_ends_of, defScope s_Works_ends_of, [], []⟩
def dd_Works_contains : He.DefD := ⟨("Works", some "__contains__"), "__contains__", "Works.__contains__", defArgs s_Works_contains, defBody s_Works_contains, defScope s_Works_contains, [], []⟩
def dd_cost_of : He.DefD := ⟨("cost_of", none), "cost_of", "cost_of", defArgs s_cost_of, defBody s_cost_of, defScope s_cost_of, [], []⟩
def dd_shows_open : He.DefD := ⟨("shows_open", none), "shows_open", "shows_open", defArgs s_shows_open, defBody s_shows_open, defScope s_shows_open, [], []⟩
def dd_law_take : He.DefD := ⟨("_law_take", none), "_law_take", "_law_take", defArgs s_law_take, defBody s_law_take, defScope s_law_take, [], []⟩
def dd_law_stem : He.DefD := ⟨("_law_stem", none), "_law_stem", "_law_stem", defArgs s_law_stem, defBody s_law_stem, defScope s_law_stem, [], []⟩
def dd_law_name : He.DefD := ⟨("_law_name", none), "_law_name", "_law_name", defArgs s_law_name, defBody s_law_name, defScope s_law_name, [], []⟩
def dd_law_names : He.DefD := ⟨("_law_names", none), "_law_names", "_law_names", defArgs s_law_names, defBody s_law_names, defScope s_law_names, [], []⟩
def dd_law_place : He.DefD := ⟨("_law_place", none), "_law_place", "_law_place", defArgs s_law_place, defBody s_law_place, defScope s_law_place, [], []⟩
def dd_law_link : He.DefD := ⟨("_law_link", none), "_law_link", "_law_link", defArgs s_law_link, defBody s_law_link, defScope s_law_link, [], []⟩
def dd_law_instrument : He.DefD := ⟨("_law_instrument", none), "_law_instrument", "_law_instrument", defArgs s_law_instrument, defBody s_law_instrument, defScope s_law_instrument, [], []⟩
def dd_law_group : He.DefD := ⟨("_law_group", none), "_law_group", "_law_group", defArgs s_law_group, defBody s_law_group, defScope s_law_group, [], []⟩
def dd_law_rows : He.DefD := ⟨("_law_rows", none), "_law_rows", "_law_rows", defArgs s_law_rows, defBody s_law_rows, defScope s_law_rows, [], []⟩
def dd_law_far : He.DefD := ⟨("_law_far", none), "_law_far", "_law_far", defArgs s_law_far, defBody s_law_far, defScope s_law_far, [], []⟩
def dd_law_least : He.DefD := ⟨("_law_least", none), "_law_least", "_law_least", defArgs s_law_least, defBody s_law_least, defScope s_law_least, [], []⟩
def dd_law_value : He.DefD := ⟨("_law_value", none), "_law_value", "_law_value", defArgs s_law_value, defBody s_law_value, defScope s_law_value, [], []⟩
def dd_law_cost : He.DefD := ⟨("_law_cost", none), "_law_cost", "_law_cost", defArgs s_law_cost, defBody s_law_cost, defScope s_law_cost, [], []⟩
def dd_law_integer : He.DefD := ⟨("_law_integer", none), "_law_integer", "_law_integer", defArgs s_law_integer, defBody s_law_integer, defScope s_law_integer, [], []⟩
def dd_law_walk : He.DefD := ⟨("_law_walk", none), "_law_walk", "_law_walk", defArgs s_law_walk, defBody s_law_walk, defScope s_law_walk, [], []⟩
def dd_law_walks : He.DefD := ⟨("_law_walks", none), "_law_walks", "_law_walks", defArgs s_law_walks, defBody s_law_walks, defScope s_law_walks, [], []⟩
def dd_law_times : He.DefD := ⟨("_law_times", none), "_law_times", "_law_times", defArgs s_law_times, defBody s_law_times, defScope s_law_times, [], []⟩
def dd_law_parted : He.DefD := ⟨("_law_parted", none), "_law_parted", "_law_parted", defArgs s_law_parted, defBody s_law_parted, defScope s_law_parted, [], []⟩
def dd_law_values_right : He.DefD := ⟨("_law_values_right", none), "_law_values_right", "_law_values_right", defArgs s_law_values_right, defBody s_law_values_right, defScope s_law_values_right, [], []⟩
def dd_law_path_right : He.DefD := ⟨("_law_path_right", none), "_law_path_right", "_law_path_right", defArgs s_law_path_right, defBody s_law_path_right, defScope s_law_path_right, [], []⟩
def dd_law_crossing_set : He.DefD := ⟨("_law_crossing_set", none), "_law_crossing_set", "_law_crossing_set", defArgs s_law_crossing_set, defBody s_law_crossing_set, defScope s_law_crossing_set, [], []⟩
def dd_law : He.DefD := ⟨("law", none), "law", "law", defArgs s_law, defBody s_law, defScope s_law, [], []⟩
def fn : List He.DefD := [dd_is_integer, dd_is_within, dd_is_string, dd_is_name, dd_is_tuple_of, dd_is_strings, dd_feeders, dd_check_part, dd_check_folds, dd_check_valves, dd_valve_cost, dd_valve_count, dd_joins, dd_is_path, dd_valve_loads, dd_list_value, dd_kind_of, dd_is_row_after, dd_is_full, dd_meets_conditions, dd_is_place, dd_joins_places, dd_is_valve_after, dd_is_pump_after, dd_is_unmetered, dd_names_of, dd_Works_init, dd_Works_row_of, dd_Works_ends_of, dd_Works_contains, dd_cost_of, dd_shows_open, dd_law_take, dd_law_stem, dd_law_name, dd_law_names, dd_law_place, dd_law_link, dd_law_instrument, dd_law_group, dd_law_rows, dd_law_far, dd_law_least, dd_law_value, dd_law_cost, dd_law_integer, dd_law_walk, dd_law_walks, dd_law_times, dd_law_parted, dd_law_values_right, dd_law_path_right, dd_law_crossing_set, dd_law]
def fs : List DefS := []
def fa : List He.Fa := [.glo "_wall", .glo "WorksError", .glo "InvalidRow", .glo "Unknown", .glo "InUse", .glo "InvalidNumber", .glo "InvalidPart", .glo "is_integer", .glo "is_within", .glo "is_string", .glo "is_name", .glo "is_tuple_of", .glo "is_strings", .glo "feeders", .glo "check_part", .glo "check_folds", .glo "check_valves", .glo "valve_cost", .glo "valve_count", .glo "joins", .glo "is_path", .glo "valve_loads", .glo "list_value", .glo "kind_of", .glo "refers_to", .glo "is_row_after", .glo "_is_full", .glo "_meets_conditions", .glo "_is_place", .glo "_joins_places", .glo "_is_valve_after", .glo "_is_pump_after", .glo "_is_unmetered", .glo "row_text", .glo "_names_of", .glo "Works", .glo "cost_of", .glo "shows_open", .glo "_law_take", .glo "_law_stem", .glo "_law_name", .glo "_law_names", .glo "_law_place", .glo "_law_link", .glo "_law_instrument", .glo "_law_group", .glo "_law_rows", .glo "_law_far", .glo "_law_least", .glo "_law_value", .glo "_law_cost", .glo "_law_integer", .glo "_law_walk", .glo "_law_walks", .glo "_law_times", .glo "_law_parted", .glo "_law_values_right", .glo "_law_path_right", .glo "_law_crossing_set", .glo "law", .str "LETTERS" "abcdefghijklmnopqrstuvwxyz", .str "DIGITS" "0123456789", .glo "BARRED_NAMES", .int "LONGEST_NAME" 12, .int "LEAST_FOLDS" 1, .int "MOST_FOLDS" 4, .glo "PLACE_KINDS", .glo "LINK_KINDS", .glo "FORMS", .glo "MAXIMA", .free "ValueError", .free "all", .free "any", .free "bool", .free "enumerate", .free "int", .free "isinstance", .free "len", .free "list", .free "max", .free "min", .free "range", .free "set", .free "staticmethod", .free "str", .free "sum", .free "super", .free "tuple", .cls "Works", .mkr "Works", .meth "Works" "row_of", .meth "Works" "ends_of", .meth "Works" "__contains__", .noat "Works" "_row_by_name", .noat "Works" "gates", .noat "Works" "instruments", .noat "Works" "links", .noat "Works" "meters", .noat "Works" "places", .noat "Works" "pumps", .noat "Works" "rows", .noat "Works" "tanks", .noat "Works" "taps", .noat "Works" "valves"]
def ts : List He.Tab := [(fun K => He.ga K "FORMS", ["node", "source", "tank", "pipe", "valve", "pump", "tap", "meter"])]
def bx_opq (K : Fg) : Bool := decide (PySem.W.nsIn K cStatics "thirdparty.any" = some none)
def bx_sf (K : Fg) : Bool := decide (PySem.W.selfFirst K (He.ga K "Works") = true)
def bx_barred (K : Fg) : Bool := kdB K (.t [.s "if", .s "then", .s "else", .s "and"]) (.ref (He.ga K "BARRED_NAMES"))
def bx_pk (K : Fg) : Bool := kdB K (.t [.s "node", .s "source", .s "tank"]) (.ref (He.ga K "PLACE_KINDS"))
def bx_lk (K : Fg) : Bool := kdB K (.t [.s "pipe", .s "valve"]) (.ref (He.ga K "LINK_KINDS"))
def bx_mx (K : Fg) : Bool := kdB K (.t [.t [.t [.s "node", .s "source", .s "tank"], .i 16], .t [.t [.s "pipe", .s "valve"], .i 24], .t [.t [.s "valve"], .i 8], .t [.t [.s "pump"], .i 4], .t [.t [.s "tank"], .i 2], .t [.t [.s "tap"], .i 8], .t [.t [.s "meter"], .i 6]]) (.ref (He.ga K "MAXIMA"))
def bx_forms (K : Fg) : Bool := tabB K (He.ga K "FORMS") [("node", .t [.i 2, .t [], .t []]), ("source", .t [.i 2, .t [], .t []]), ("tank", .t [.i 4, .t [.i 2, .i 3], .t []]), ("pipe", .t [.i 4, .t [], .t [.i 2, .i 3]]), ("valve", .t [.i 6, .t [.i 5], .t [.i 2, .i 3]]), ("pump", .t [.i 6, .t [.i 4], .t [.i 2, .i 3]]), ("tap", .t [.i 5, .t [.i 3, .i 4], .t [.i 2]]), ("meter", .t [.i 3, .t [], .t [.i 2]])]
def exl : List (Fg → Bool) := [bx_opq, bx_sf, bx_barred, bx_pk, bx_lk, bx_mx, bx_forms]
def exB (K : Fg) : Bool := exl.all fun b => b K
structure Txt (w : World) (K : Fg) (mg : Str → Option Value) : Prop where
  c : SaysST fa fn fs pw.main.file exB ts w K
  g : ∀ (i : Nat) (x : Str), fa[i]? = some (.glo x) → mg x = some (.ref (He.ga K x))
  f : ∀ (i : Nat) (x : Str), fa[i]? = some (.free x) → mg x = none
  n : ∀ (i : Nat) (x : Str) (z : Int), fa[i]? = some (.int x z) → ∃ t, mg x = some (.int z t)
  s : ∀ (i : Nat) (x z : Str), fa[i]? = some (.str x z) → ∃ t, mg x = some (.str z t)
section
variable {w : World} {K : Fg} {mg : Str → Option Value}
theorem Txt.x_opq (T : Txt w K mg) : PySem.W.nsIn K cStatics "thirdparty.any" = some none := (fun h => of_decide_eq_true h) (show bx_opq K = true from List.all_eq_true.mp T.c.s.e _ (List.mem_of_getElem? (i := 0) rfl))
theorem Txt.x_sf (T : Txt w K mg) : PySem.W.selfFirst K (He.ga K "Works") = true := (fun h => of_decide_eq_true h) (show bx_sf K = true from List.all_eq_true.mp T.c.s.e _ (List.mem_of_getElem? (i := 1) rfl))
theorem Txt.x_barred (T : Txt w K mg) : kdB K (.t [.s "if", .s "then", .s "else", .s "and"]) (.ref (He.ga K "BARRED_NAMES")) = true := (fun h => h) (show bx_barred K = true from List.all_eq_true.mp T.c.s.e _ (List.mem_of_getElem? (i := 2) rfl))
theorem Txt.x_pk (T : Txt w K mg) : kdB K (.t [.s "node", .s "source", .s "tank"]) (.ref (He.ga K "PLACE_KINDS")) = true := (fun h => h) (show bx_pk K = true from List.all_eq_true.mp T.c.s.e _ (List.mem_of_getElem? (i := 3) rfl))
theorem Txt.x_lk (T : Txt w K mg) : kdB K (.t [.s "pipe", .s "valve"]) (.ref (He.ga K "LINK_KINDS")) = true := (fun h => h) (show bx_lk K = true from List.all_eq_true.mp T.c.s.e _ (List.mem_of_getElem? (i := 4) rfl))
theorem Txt.x_mx (T : Txt w K mg) : kdB K (.t [.t [.t [.s "node", .s "source", .s "tank"], .i 16], .t [.t [.s "pipe", .s "valve"], .i 24], .t [.t [.s "valve"], .i 8], .t [.t [.s "pump"], .i 4], .t [.t [.s "tank"], .i 2], .t [.t [.s "tap"], .i 8], .t [.t [.s "meter"], .i 6]]) (.ref (He.ga K "MAXIMA")) = true := (fun h => h) (show bx_mx K = true from List.all_eq_true.mp T.c.s.e _ (List.mem_of_getElem? (i := 5) rfl))
theorem Txt.x_forms (T : Txt w K mg) : tabB K (He.ga K "FORMS") [("node", .t [.i 2, .t [], .t []]), ("source", .t [.i 2, .t [], .t []]), ("tank", .t [.i 4, .t [.i 2, .i 3], .t []]), ("pipe", .t [.i 4, .t [], .t [.i 2, .i 3]]), ("valve", .t [.i 6, .t [.i 5], .t [.i 2, .i 3]]), ("pump", .t [.i 6, .t [.i 4], .t [.i 2, .i 3]]), ("tap", .t [.i 5, .t [.i 3, .i 4], .t [.i 2]]), ("meter", .t [.i 3, .t [], .t [.i 2]])] = true := (fun h => h) (show bx_forms K = true from List.all_eq_true.mp T.c.s.e _ (List.mem_of_getElem? (i := 6) rfl))
theorem Txt.t_FORMS (T : Txt w K mg) : ∃ es n, KDict K w (He.ga K "FORMS") es n := T.c.tab 0 (t := (fun K => He.ga K "FORMS", ["node", "source", "tank", "pipe", "valve", "pump", "tap", "meter"])) rfl
theorem Txt.d_is_integer (T : Txt w K mg) : ∃ fd, FunD K "is_integer" "is_integer" (defArgs s_is_integer) (defBody s_is_integer) (defScope s_is_integer) [] [] (He.fAd K ("is_integer", none)) fd := T.c.s.d.def_ 0 (d := dd_is_integer) rfl
theorem Txt.d_is_within (T : Txt w K mg) : ∃ fd, FunD K "is_within" "is_within" (defArgs s_is_within) (defBody s_is_within) (defScope s_is_within) [] [] (He.fAd K ("is_within", none)) fd := T.c.s.d.def_ 1 (d := dd_is_within) rfl
theorem Txt.d_is_string (T : Txt w K mg) : ∃ fd, FunD K "is_string" "is_string" (defArgs s_is_string) (defBody s_is_string) (defScope s_is_string) [] [] (He.fAd K ("is_string", none)) fd := T.c.s.d.def_ 2 (d := dd_is_string) rfl
theorem Txt.d_is_name (T : Txt w K mg) : ∃ fd, FunD K "is_name" "is_name" (defArgs s_is_name) (defBody s_is_name) (defScope s_is_name) [] [] (He.fAd K ("is_name", none)) fd := T.c.s.d.def_ 3 (d := dd_is_name) rfl
theorem Txt.d_is_tuple_of (T : Txt w K mg) : ∃ fd, FunD K "is_tuple_of" "is_tuple_of" (defArgs s_is_tuple_of) (defBody s_is_tuple_of) (defScope s_is_tuple_of) [] [] (He.fAd K ("is_tuple_of", none)) fd := T.c.s.d.def_ 4 (d := dd_is_tuple_of) rfl
theorem Txt.d_is_strings (T : Txt w K mg) : ∃ fd, FunD K "is_strings" "is_strings" (defArgs s_is_strings) (defBody s_is_strings) (defScope s_is_strings) [] [] (He.fAd K ("is_strings", none)) fd := T.c.s.d.def_ 5 (d := dd_is_strings) rfl
theorem Txt.d_feeders (T : Txt w K mg) : ∃ fd, FunD K "feeders" "feeders" (defArgs s_feeders) (defBody s_feeders) (defScope s_feeders) [] [] (He.fAd K ("feeders", none)) fd := T.c.s.d.def_ 6 (d := dd_feeders) rfl
theorem Txt.d_check_part (T : Txt w K mg) : ∃ fd, FunD K "check_part" "check_part" (defArgs s_check_part) (defBody s_check_part) (defScope s_check_part) [] [] (He.fAd K ("check_part", none)) fd := T.c.s.d.def_ 7 (d := dd_check_part) rfl
theorem Txt.d_check_folds (T : Txt w K mg) : ∃ fd, FunD K "check_folds" "check_folds" (defArgs s_check_folds) (defBody s_check_folds) (defScope s_check_folds) [] [] (He.fAd K ("check_folds", none)) fd := T.c.s.d.def_ 8 (d := dd_check_folds) rfl
theorem Txt.d_check_valves (T : Txt w K mg) : ∃ fd, FunD K "check_valves" "check_valves" (defArgs s_check_valves) (defBody s_check_valves) (defScope s_check_valves) [] [] (He.fAd K ("check_valves", none)) fd := T.c.s.d.def_ 9 (d := dd_check_valves) rfl
theorem Txt.d_valve_cost (T : Txt w K mg) : ∃ fd, FunD K "valve_cost" "valve_cost" (defArgs s_valve_cost) (defBody s_valve_cost) (defScope s_valve_cost) [] [] (He.fAd K ("valve_cost", none)) fd := T.c.s.d.def_ 10 (d := dd_valve_cost) rfl
theorem Txt.d_valve_count (T : Txt w K mg) : ∃ fd, FunD K "valve_count" "valve_count" (defArgs s_valve_count) (defBody s_valve_count) (defScope s_valve_count) [] [] (He.fAd K ("valve_count", none)) fd := T.c.s.d.def_ 11 (d := dd_valve_count) rfl
theorem Txt.d_joins (T : Txt w K mg) : ∃ fd, FunD K "joins" "joins" (defArgs s_joins) (defBody s_joins) (defScope s_joins) [] [] (He.fAd K ("joins", none)) fd := T.c.s.d.def_ 12 (d := dd_joins) rfl
theorem Txt.d_is_path (T : Txt w K mg) : ∃ fd, FunD K "is_path" "is_path" (defArgs s_is_path) (defBody s_is_path) (defScope s_is_path) [] [] (He.fAd K ("is_path", none)) fd := T.c.s.d.def_ 13 (d := dd_is_path) rfl
theorem Txt.d_valve_loads (T : Txt w K mg) : ∃ fd, FunD K "valve_loads" "valve_loads" (defArgs s_valve_loads) (defBody s_valve_loads) (defScope s_valve_loads) [] [] (He.fAd K ("valve_loads", none)) fd := T.c.s.d.def_ 14 (d := dd_valve_loads) rfl
theorem Txt.d_list_value (T : Txt w K mg) : ∃ fd, FunD K "list_value" "list_value" (defArgs s_list_value) (defBody s_list_value) (defScope s_list_value) [] [] (He.fAd K ("list_value", none)) fd := T.c.s.d.def_ 15 (d := dd_list_value) rfl
theorem Txt.d_kind_of (T : Txt w K mg) : ∃ fd, FunD K "kind_of" "kind_of" (defArgs s_kind_of) (defBody s_kind_of) (defScope s_kind_of) [] [] (He.fAd K ("kind_of", none)) fd := T.c.s.d.def_ 16 (d := dd_kind_of) rfl
theorem Txt.d_is_row_after (T : Txt w K mg) : ∃ fd, FunD K "is_row_after" "is_row_after" (defArgs s_is_row_after) (defBody s_is_row_after) (defScope s_is_row_after) [] [] (He.fAd K ("is_row_after", none)) fd := T.c.s.d.def_ 17 (d := dd_is_row_after) rfl
theorem Txt.d_is_full (T : Txt w K mg) : ∃ fd, FunD K "_is_full" "_is_full" (defArgs s_is_full) (defBody s_is_full) (defScope s_is_full) [] [] (He.fAd K ("_is_full", none)) fd := T.c.s.d.def_ 18 (d := dd_is_full) rfl
theorem Txt.d_meets_conditions (T : Txt w K mg) : ∃ fd, FunD K "_meets_conditions" "_meets_conditions" (defArgs s_meets_conditions) (defBody s_meets_conditions) (defScope s_meets_conditions) [] [] (He.fAd K ("_meets_conditions", none)) fd := T.c.s.d.def_ 19 (d := dd_meets_conditions) rfl
theorem Txt.d_is_place (T : Txt w K mg) : ∃ fd, FunD K "_is_place" "_is_place" (defArgs s_is_place) (defBody s_is_place) (defScope s_is_place) [] [] (He.fAd K ("_is_place", none)) fd := T.c.s.d.def_ 20 (d := dd_is_place) rfl
theorem Txt.d_joins_places (T : Txt w K mg) : ∃ fd, FunD K "_joins_places" "_joins_places" (defArgs s_joins_places) (defBody s_joins_places) (defScope s_joins_places) [] [] (He.fAd K ("_joins_places", none)) fd := T.c.s.d.def_ 21 (d := dd_joins_places) rfl
theorem Txt.d_is_valve_after (T : Txt w K mg) : ∃ fd, FunD K "_is_valve_after" "_is_valve_after" (defArgs s_is_valve_after) (defBody s_is_valve_after) (defScope s_is_valve_after) [] [] (He.fAd K ("_is_valve_after", none)) fd := T.c.s.d.def_ 22 (d := dd_is_valve_after) rfl
theorem Txt.d_is_pump_after (T : Txt w K mg) : ∃ fd, FunD K "_is_pump_after" "_is_pump_after" (defArgs s_is_pump_after) (defBody s_is_pump_after) (defScope s_is_pump_after) [] [] (He.fAd K ("_is_pump_after", none)) fd := T.c.s.d.def_ 23 (d := dd_is_pump_after) rfl
theorem Txt.d_is_unmetered (T : Txt w K mg) : ∃ fd, FunD K "_is_unmetered" "_is_unmetered" (defArgs s_is_unmetered) (defBody s_is_unmetered) (defScope s_is_unmetered) [] [] (He.fAd K ("_is_unmetered", none)) fd := T.c.s.d.def_ 24 (d := dd_is_unmetered) rfl
theorem Txt.d_names_of (T : Txt w K mg) : ∃ fd, FunD K "_names_of" "_names_of" (defArgs s_names_of) (defBody s_names_of) (defScope s_names_of) [] [] (He.fAd K ("_names_of", none)) fd := T.c.s.d.def_ 25 (d := dd_names_of) rfl
theorem Txt.d_Works_init (T : Txt w K mg) : ∃ fd, FunD K "__init__" "Works.__init__" (defArgs s_Works_init) (defBody s_Works_init) (defScope s_Works_init) [] [] (He.fAd K ("Works", some "__init__")) fd := T.c.s.d.def_ 26 (d := dd_Works_init) rfl
theorem Txt.d_Works_row_of (T : Txt w K mg) : ∃ fd, FunD K "row_of" "Works.row_of" (defArgs s_Works_row_of) (defBody s_Works_row_of) (defScope s_Works_row_of) [] [] (He.fAd K ("Works", some "row_of")) fd := T.c.s.d.def_ 27 (d := dd_Works_row_of) rfl
theorem Txt.d_Works_ends_of (T : Txt w K mg) : ∃ fd, FunD K "ends_of" "Works.ends_of" (defArgs s_Works_ends_of) (defBody s_Works_ends_of) (defScope s_Works_ends_of) [] [] (He.fAd K ("Works", some "ends_of")) fd := T.c.s.d.def_ 28 (d := dd_Works_ends_of) rfl
theorem Txt.d_Works_contains (T : Txt w K mg) : ∃ fd, FunD K "__contains__" "Works.__contains__" (defArgs s_Works_contains) (defBody s_Works_contains) (defScope s_Works_contains) [] [] (He.fAd K ("Works", some "__contains__")) fd := T.c.s.d.def_ 29 (d := dd_Works_contains) rfl
theorem Txt.d_cost_of (T : Txt w K mg) : ∃ fd, FunD K "cost_of" "cost_of" (defArgs s_cost_of) (defBody s_cost_of) (defScope s_cost_of) [] [] (He.fAd K ("cost_of", none)) fd := T.c.s.d.def_ 30 (d := dd_cost_of) rfl
theorem Txt.d_shows_open (T : Txt w K mg) : ∃ fd, FunD K "shows_open" "shows_open" (defArgs s_shows_open) (defBody s_shows_open) (defScope s_shows_open) [] [] (He.fAd K ("shows_open", none)) fd := T.c.s.d.def_ 31 (d := dd_shows_open) rfl
theorem Txt.d_law_take (T : Txt w K mg) : ∃ fd, FunD K "_law_take" "_law_take" (defArgs s_law_take) (defBody s_law_take) (defScope s_law_take) [] [] (He.fAd K ("_law_take", none)) fd := T.c.s.d.def_ 32 (d := dd_law_take) rfl
theorem Txt.d_law_stem (T : Txt w K mg) : ∃ fd, FunD K "_law_stem" "_law_stem" (defArgs s_law_stem) (defBody s_law_stem) (defScope s_law_stem) [] [] (He.fAd K ("_law_stem", none)) fd := T.c.s.d.def_ 33 (d := dd_law_stem) rfl
theorem Txt.d_law_name (T : Txt w K mg) : ∃ fd, FunD K "_law_name" "_law_name" (defArgs s_law_name) (defBody s_law_name) (defScope s_law_name) [] [] (He.fAd K ("_law_name", none)) fd := T.c.s.d.def_ 34 (d := dd_law_name) rfl
theorem Txt.d_law_names (T : Txt w K mg) : ∃ fd, FunD K "_law_names" "_law_names" (defArgs s_law_names) (defBody s_law_names) (defScope s_law_names) [] [] (He.fAd K ("_law_names", none)) fd := T.c.s.d.def_ 35 (d := dd_law_names) rfl
theorem Txt.d_law_place (T : Txt w K mg) : ∃ fd, FunD K "_law_place" "_law_place" (defArgs s_law_place) (defBody s_law_place) (defScope s_law_place) [] [] (He.fAd K ("_law_place", none)) fd := T.c.s.d.def_ 36 (d := dd_law_place) rfl
theorem Txt.d_law_link (T : Txt w K mg) : ∃ fd, FunD K "_law_link" "_law_link" (defArgs s_law_link) (defBody s_law_link) (defScope s_law_link) [] [] (He.fAd K ("_law_link", none)) fd := T.c.s.d.def_ 37 (d := dd_law_link) rfl
theorem Txt.d_law_instrument (T : Txt w K mg) : ∃ fd, FunD K "_law_instrument" "_law_instrument" (defArgs s_law_instrument) (defBody s_law_instrument) (defScope s_law_instrument) [] [] (He.fAd K ("_law_instrument", none)) fd := T.c.s.d.def_ 38 (d := dd_law_instrument) rfl
theorem Txt.d_law_group (T : Txt w K mg) : ∃ fd, FunD K "_law_group" "_law_group" (defArgs s_law_group) (defBody s_law_group) (defScope s_law_group) [] [] (He.fAd K ("_law_group", none)) fd := T.c.s.d.def_ 39 (d := dd_law_group) rfl
theorem Txt.d_law_rows (T : Txt w K mg) : ∃ fd, FunD K "_law_rows" "_law_rows" (defArgs s_law_rows) (defBody s_law_rows) (defScope s_law_rows) [] [] (He.fAd K ("_law_rows", none)) fd := T.c.s.d.def_ 40 (d := dd_law_rows) rfl
theorem Txt.d_law_far (T : Txt w K mg) : ∃ fd, FunD K "_law_far" "_law_far" (defArgs s_law_far) (defBody s_law_far) (defScope s_law_far) [] [] (He.fAd K ("_law_far", none)) fd := T.c.s.d.def_ 41 (d := dd_law_far) rfl
theorem Txt.d_law_least (T : Txt w K mg) : ∃ fd, FunD K "_law_least" "_law_least" (defArgs s_law_least) (defBody s_law_least) (defScope s_law_least) [] [] (He.fAd K ("_law_least", none)) fd := T.c.s.d.def_ 42 (d := dd_law_least) rfl
theorem Txt.d_law_value (T : Txt w K mg) : ∃ fd, FunD K "_law_value" "_law_value" (defArgs s_law_value) (defBody s_law_value) (defScope s_law_value) [] [] (He.fAd K ("_law_value", none)) fd := T.c.s.d.def_ 43 (d := dd_law_value) rfl
theorem Txt.d_law_cost (T : Txt w K mg) : ∃ fd, FunD K "_law_cost" "_law_cost" (defArgs s_law_cost) (defBody s_law_cost) (defScope s_law_cost) [] [] (He.fAd K ("_law_cost", none)) fd := T.c.s.d.def_ 44 (d := dd_law_cost) rfl
theorem Txt.d_law_integer (T : Txt w K mg) : ∃ fd, FunD K "_law_integer" "_law_integer" (defArgs s_law_integer) (defBody s_law_integer) (defScope s_law_integer) [] [] (He.fAd K ("_law_integer", none)) fd := T.c.s.d.def_ 45 (d := dd_law_integer) rfl
theorem Txt.d_law_walk (T : Txt w K mg) : ∃ fd, FunD K "_law_walk" "_law_walk" (defArgs s_law_walk) (defBody s_law_walk) (defScope s_law_walk) [] [] (He.fAd K ("_law_walk", none)) fd := T.c.s.d.def_ 46 (d := dd_law_walk) rfl
theorem Txt.d_law_walks (T : Txt w K mg) : ∃ fd, FunD K "_law_walks" "_law_walks" (defArgs s_law_walks) (defBody s_law_walks) (defScope s_law_walks) [] [] (He.fAd K ("_law_walks", none)) fd := T.c.s.d.def_ 47 (d := dd_law_walks) rfl
theorem Txt.d_law_times (T : Txt w K mg) : ∃ fd, FunD K "_law_times" "_law_times" (defArgs s_law_times) (defBody s_law_times) (defScope s_law_times) [] [] (He.fAd K ("_law_times", none)) fd := T.c.s.d.def_ 48 (d := dd_law_times) rfl
theorem Txt.d_law_parted (T : Txt w K mg) : ∃ fd, FunD K "_law_parted" "_law_parted" (defArgs s_law_parted) (defBody s_law_parted) (defScope s_law_parted) [] [] (He.fAd K ("_law_parted", none)) fd := T.c.s.d.def_ 49 (d := dd_law_parted) rfl
theorem Txt.d_law_values_right (T : Txt w K mg) : ∃ fd, FunD K "_law_values_right" "_law_values_right" (defArgs s_law_values_right) (defBody s_law_values_right) (defScope s_law_values_right) [] [] (He.fAd K ("_law_values_right", none)) fd := T.c.s.d.def_ 50 (d := dd_law_values_right) rfl
theorem Txt.d_law_path_right (T : Txt w K mg) : ∃ fd, FunD K "_law_path_right" "_law_path_right" (defArgs s_law_path_right) (defBody s_law_path_right) (defScope s_law_path_right) [] [] (He.fAd K ("_law_path_right", none)) fd := T.c.s.d.def_ 51 (d := dd_law_path_right) rfl
theorem Txt.d_law_crossing_set (T : Txt w K mg) : ∃ fd, FunD K "_law_crossing_set" "_law_crossing_set" (defArgs s_law_crossing_set) (defBody s_law_crossing_set) (defScope s_law_crossing_set) [] [] (He.fAd K ("_law_crossing_set", none)) fd := T.c.s.d.def_ 52 (d := dd_law_crossing_set) rfl
theorem Txt.d_law (T : Txt w K mg) : ∃ fd, FunD K "law" "law" (defArgs s_law) (defBody s_law) (defScope s_law) [] [] (He.fAd K ("law", none)) fd := T.c.s.d.def_ 53 (d := dd_law) rfl
theorem Txt.g_wall (T : Txt w K mg) : mg "_wall" = some (.ref (He.ga K "_wall")) := T.g 0 _ rfl
theorem Txt.g_WorksError (T : Txt w K mg) : mg "WorksError" = some (.ref (He.ga K "WorksError")) := T.g 1 _ rfl
theorem Txt.g_InvalidRow (T : Txt w K mg) : mg "InvalidRow" = some (.ref (He.ga K "InvalidRow")) := T.g 2 _ rfl
theorem Txt.g_Unknown (T : Txt w K mg) : mg "Unknown" = some (.ref (He.ga K "Unknown")) := T.g 3 _ rfl
theorem Txt.g_InUse (T : Txt w K mg) : mg "InUse" = some (.ref (He.ga K "InUse")) := T.g 4 _ rfl
theorem Txt.g_InvalidNumber (T : Txt w K mg) : mg "InvalidNumber" = some (.ref (He.ga K "InvalidNumber")) := T.g 5 _ rfl
theorem Txt.g_InvalidPart (T : Txt w K mg) : mg "InvalidPart" = some (.ref (He.ga K "InvalidPart")) := T.g 6 _ rfl
theorem Txt.g_is_integer (T : Txt w K mg) : mg "is_integer" = some (.ref (He.ga K "is_integer")) := T.g 7 _ rfl
theorem Txt.g_is_within (T : Txt w K mg) : mg "is_within" = some (.ref (He.ga K "is_within")) := T.g 8 _ rfl
theorem Txt.g_is_string (T : Txt w K mg) : mg "is_string" = some (.ref (He.ga K "is_string")) := T.g 9 _ rfl
theorem Txt.g_is_name (T : Txt w K mg) : mg "is_name" = some (.ref (He.ga K "is_name")) := T.g 10 _ rfl
theorem Txt.g_is_tuple_of (T : Txt w K mg) : mg "is_tuple_of" = some (.ref (He.ga K "is_tuple_of")) := T.g 11 _ rfl
theorem Txt.g_is_strings (T : Txt w K mg) : mg "is_strings" = some (.ref (He.ga K "is_strings")) := T.g 12 _ rfl
theorem Txt.g_feeders (T : Txt w K mg) : mg "feeders" = some (.ref (He.ga K "feeders")) := T.g 13 _ rfl
theorem Txt.g_check_part (T : Txt w K mg) : mg "check_part" = some (.ref (He.ga K "check_part")) := T.g 14 _ rfl
theorem Txt.g_check_folds (T : Txt w K mg) : mg "check_folds" = some (.ref (He.ga K "check_folds")) := T.g 15 _ rfl
theorem Txt.g_check_valves (T : Txt w K mg) : mg "check_valves" = some (.ref (He.ga K "check_valves")) := T.g 16 _ rfl
theorem Txt.g_valve_cost (T : Txt w K mg) : mg "valve_cost" = some (.ref (He.ga K "valve_cost")) := T.g 17 _ rfl
theorem Txt.g_valve_count (T : Txt w K mg) : mg "valve_count" = some (.ref (He.ga K "valve_count")) := T.g 18 _ rfl
theorem Txt.g_joins (T : Txt w K mg) : mg "joins" = some (.ref (He.ga K "joins")) := T.g 19 _ rfl
theorem Txt.g_is_path (T : Txt w K mg) : mg "is_path" = some (.ref (He.ga K "is_path")) := T.g 20 _ rfl
theorem Txt.g_valve_loads (T : Txt w K mg) : mg "valve_loads" = some (.ref (He.ga K "valve_loads")) := T.g 21 _ rfl
theorem Txt.g_list_value (T : Txt w K mg) : mg "list_value" = some (.ref (He.ga K "list_value")) := T.g 22 _ rfl
theorem Txt.g_kind_of (T : Txt w K mg) : mg "kind_of" = some (.ref (He.ga K "kind_of")) := T.g 23 _ rfl
theorem Txt.g_refers_to (T : Txt w K mg) : mg "refers_to" = some (.ref (He.ga K "refers_to")) := T.g 24 _ rfl
theorem Txt.g_is_row_after (T : Txt w K mg) : mg "is_row_after" = some (.ref (He.ga K "is_row_after")) := T.g 25 _ rfl
theorem Txt.g_is_full (T : Txt w K mg) : mg "_is_full" = some (.ref (He.ga K "_is_full")) := T.g 26 _ rfl
theorem Txt.g_meets_conditions (T : Txt w K mg) : mg "_meets_conditions" = some (.ref (He.ga K "_meets_conditions")) := T.g 27 _ rfl
theorem Txt.g_is_place (T : Txt w K mg) : mg "_is_place" = some (.ref (He.ga K "_is_place")) := T.g 28 _ rfl
theorem Txt.g_joins_places (T : Txt w K mg) : mg "_joins_places" = some (.ref (He.ga K "_joins_places")) := T.g 29 _ rfl
theorem Txt.g_is_valve_after (T : Txt w K mg) : mg "_is_valve_after" = some (.ref (He.ga K "_is_valve_after")) := T.g 30 _ rfl
theorem Txt.g_is_pump_after (T : Txt w K mg) : mg "_is_pump_after" = some (.ref (He.ga K "_is_pump_after")) := T.g 31 _ rfl
theorem Txt.g_is_unmetered (T : Txt w K mg) : mg "_is_unmetered" = some (.ref (He.ga K "_is_unmetered")) := T.g 32 _ rfl
theorem Txt.g_row_text (T : Txt w K mg) : mg "row_text" = some (.ref (He.ga K "row_text")) := T.g 33 _ rfl
theorem Txt.g_names_of (T : Txt w K mg) : mg "_names_of" = some (.ref (He.ga K "_names_of")) := T.g 34 _ rfl
theorem Txt.g_Works (T : Txt w K mg) : mg "Works" = some (.ref (He.ga K "Works")) := T.g 35 _ rfl
theorem Txt.g_cost_of (T : Txt w K mg) : mg "cost_of" = some (.ref (He.ga K "cost_of")) := T.g 36 _ rfl
theorem Txt.g_shows_open (T : Txt w K mg) : mg "shows_open" = some (.ref (He.ga K "shows_open")) := T.g 37 _ rfl
theorem Txt.g_law_take (T : Txt w K mg) : mg "_law_take" = some (.ref (He.ga K "_law_take")) := T.g 38 _ rfl
theorem Txt.g_law_stem (T : Txt w K mg) : mg "_law_stem" = some (.ref (He.ga K "_law_stem")) := T.g 39 _ rfl
theorem Txt.g_law_name (T : Txt w K mg) : mg "_law_name" = some (.ref (He.ga K "_law_name")) := T.g 40 _ rfl
theorem Txt.g_law_names (T : Txt w K mg) : mg "_law_names" = some (.ref (He.ga K "_law_names")) := T.g 41 _ rfl
theorem Txt.g_law_place (T : Txt w K mg) : mg "_law_place" = some (.ref (He.ga K "_law_place")) := T.g 42 _ rfl
theorem Txt.g_law_link (T : Txt w K mg) : mg "_law_link" = some (.ref (He.ga K "_law_link")) := T.g 43 _ rfl
theorem Txt.g_law_instrument (T : Txt w K mg) : mg "_law_instrument" = some (.ref (He.ga K "_law_instrument")) := T.g 44 _ rfl
theorem Txt.g_law_group (T : Txt w K mg) : mg "_law_group" = some (.ref (He.ga K "_law_group")) := T.g 45 _ rfl
theorem Txt.g_law_rows (T : Txt w K mg) : mg "_law_rows" = some (.ref (He.ga K "_law_rows")) := T.g 46 _ rfl
theorem Txt.g_law_far (T : Txt w K mg) : mg "_law_far" = some (.ref (He.ga K "_law_far")) := T.g 47 _ rfl
theorem Txt.g_law_least (T : Txt w K mg) : mg "_law_least" = some (.ref (He.ga K "_law_least")) := T.g 48 _ rfl
theorem Txt.g_law_value (T : Txt w K mg) : mg "_law_value" = some (.ref (He.ga K "_law_value")) := T.g 49 _ rfl
theorem Txt.g_law_cost (T : Txt w K mg) : mg "_law_cost" = some (.ref (He.ga K "_law_cost")) := T.g 50 _ rfl
theorem Txt.g_law_integer (T : Txt w K mg) : mg "_law_integer" = some (.ref (He.ga K "_law_integer")) := T.g 51 _ rfl
theorem Txt.g_law_walk (T : Txt w K mg) : mg "_law_walk" = some (.ref (He.ga K "_law_walk")) := T.g 52 _ rfl
theorem Txt.g_law_walks (T : Txt w K mg) : mg "_law_walks" = some (.ref (He.ga K "_law_walks")) := T.g 53 _ rfl
theorem Txt.g_law_times (T : Txt w K mg) : mg "_law_times" = some (.ref (He.ga K "_law_times")) := T.g 54 _ rfl
theorem Txt.g_law_parted (T : Txt w K mg) : mg "_law_parted" = some (.ref (He.ga K "_law_parted")) := T.g 55 _ rfl
theorem Txt.g_law_values_right (T : Txt w K mg) : mg "_law_values_right" = some (.ref (He.ga K "_law_values_right")) := T.g 56 _ rfl
theorem Txt.g_law_path_right (T : Txt w K mg) : mg "_law_path_right" = some (.ref (He.ga K "_law_path_right")) := T.g 57 _ rfl
theorem Txt.g_law_crossing_set (T : Txt w K mg) : mg "_law_crossing_set" = some (.ref (He.ga K "_law_crossing_set")) := T.g 58 _ rfl
theorem Txt.g_law (T : Txt w K mg) : mg "law" = some (.ref (He.ga K "law")) := T.g 59 _ rfl
theorem Txt.s_LETTERS (T : Txt w K mg) : ∃ t, mg "LETTERS" = some (.str "abcdefghijklmnopqrstuvwxyz" t) := T.s 60 _ _ rfl
theorem Txt.s_DIGITS (T : Txt w K mg) : ∃ t, mg "DIGITS" = some (.str "0123456789" t) := T.s 61 _ _ rfl
theorem Txt.g_BARRED_NAMES (T : Txt w K mg) : mg "BARRED_NAMES" = some (.ref (He.ga K "BARRED_NAMES")) := T.g 62 _ rfl
theorem Txt.i_LONGEST_NAME (T : Txt w K mg) : ∃ t, mg "LONGEST_NAME" = some (.int 12 t) := T.n 63 _ _ rfl
theorem Txt.i_LEAST_FOLDS (T : Txt w K mg) : ∃ t, mg "LEAST_FOLDS" = some (.int 1 t) := T.n 64 _ _ rfl
theorem Txt.i_MOST_FOLDS (T : Txt w K mg) : ∃ t, mg "MOST_FOLDS" = some (.int 4 t) := T.n 65 _ _ rfl
theorem Txt.g_PLACE_KINDS (T : Txt w K mg) : mg "PLACE_KINDS" = some (.ref (He.ga K "PLACE_KINDS")) := T.g 66 _ rfl
theorem Txt.g_LINK_KINDS (T : Txt w K mg) : mg "LINK_KINDS" = some (.ref (He.ga K "LINK_KINDS")) := T.g 67 _ rfl
theorem Txt.g_FORMS (T : Txt w K mg) : mg "FORMS" = some (.ref (He.ga K "FORMS")) := T.g 68 _ rfl
theorem Txt.g_MAXIMA (T : Txt w K mg) : mg "MAXIMA" = some (.ref (He.ga K "MAXIMA")) := T.g 69 _ rfl
theorem Txt.f_ValueError (T : Txt w K mg) : mg "ValueError" = none := T.f 70 _ rfl
theorem Txt.f_all (T : Txt w K mg) : mg "all" = none := T.f 71 _ rfl
theorem Txt.f_any (T : Txt w K mg) : mg "any" = none := T.f 72 _ rfl
theorem Txt.f_bool (T : Txt w K mg) : mg "bool" = none := T.f 73 _ rfl
theorem Txt.f_enumerate (T : Txt w K mg) : mg "enumerate" = none := T.f 74 _ rfl
theorem Txt.f_int (T : Txt w K mg) : mg "int" = none := T.f 75 _ rfl
theorem Txt.f_isinstance (T : Txt w K mg) : mg "isinstance" = none := T.f 76 _ rfl
theorem Txt.f_len (T : Txt w K mg) : mg "len" = none := T.f 77 _ rfl
theorem Txt.f_list (T : Txt w K mg) : mg "list" = none := T.f 78 _ rfl
theorem Txt.f_max (T : Txt w K mg) : mg "max" = none := T.f 79 _ rfl
theorem Txt.f_min (T : Txt w K mg) : mg "min" = none := T.f 80 _ rfl
theorem Txt.f_range (T : Txt w K mg) : mg "range" = none := T.f 81 _ rfl
theorem Txt.f_set (T : Txt w K mg) : mg "set" = none := T.f 82 _ rfl
theorem Txt.f_staticmethod (T : Txt w K mg) : mg "staticmethod" = none := T.f 83 _ rfl
theorem Txt.f_str (T : Txt w K mg) : mg "str" = none := T.f 84 _ rfl
theorem Txt.f_sum (T : Txt w K mg) : mg "sum" = none := T.f 85 _ rfl
theorem Txt.f_super (T : Txt w K mg) : mg "super" = none := T.f 86 _ rfl
theorem Txt.f_tuple (T : Txt w K mg) : mg "tuple" = none := T.f 87 _ rfl
theorem Txt.c_Works (T : Txt w K mg) : Cls K (He.ga K "Works") := He.cls_ok (T.c.s.d.fact 88 (f := .cls "Works") rfl)
theorem Txt.mk_Works (T : Txt w K mg) : Mk K (He.ga K "Works") (He.ma K (He.ga K "Works") "__init__") := He.mkr_ok (T.c.s.d.fact 89 (f := .mkr "Works") rfl)
theorem Txt.m_Works_row_of (T : Txt w K mg) : Meth K (He.ga K "Works") "row_of" (He.ma K (He.ga K "Works") "row_of") := He.meth_ok (T.c.s.d.fact 90 (f := .meth "Works" "row_of") rfl)
theorem Txt.m_Works_ends_of (T : Txt w K mg) : Meth K (He.ga K "Works") "ends_of" (He.ma K (He.ga K "Works") "ends_of") := He.meth_ok (T.c.s.d.fact 91 (f := .meth "Works" "ends_of") rfl)
theorem Txt.m_Works_contains (T : Txt w K mg) : Meth K (He.ga K "Works") "__contains__" (He.ma K (He.ga K "Works") "__contains__") := He.meth_ok (T.c.s.d.fact 92 (f := .meth "Works" "__contains__") rfl)
theorem Txt.n_Works__row_by_name (T : Txt w K mg) : NoAttr K (He.ga K "Works") "_row_by_name" := He.noat_ok (T.c.s.d.fact 93 (f := .noat "Works" "_row_by_name") rfl)
theorem Txt.n_Works_gates (T : Txt w K mg) : NoAttr K (He.ga K "Works") "gates" := He.noat_ok (T.c.s.d.fact 94 (f := .noat "Works" "gates") rfl)
theorem Txt.n_Works_instruments (T : Txt w K mg) : NoAttr K (He.ga K "Works") "instruments" := He.noat_ok (T.c.s.d.fact 95 (f := .noat "Works" "instruments") rfl)
theorem Txt.n_Works_links (T : Txt w K mg) : NoAttr K (He.ga K "Works") "links" := He.noat_ok (T.c.s.d.fact 96 (f := .noat "Works" "links") rfl)
theorem Txt.n_Works_meters (T : Txt w K mg) : NoAttr K (He.ga K "Works") "meters" := He.noat_ok (T.c.s.d.fact 97 (f := .noat "Works" "meters") rfl)
theorem Txt.n_Works_places (T : Txt w K mg) : NoAttr K (He.ga K "Works") "places" := He.noat_ok (T.c.s.d.fact 98 (f := .noat "Works" "places") rfl)
theorem Txt.n_Works_pumps (T : Txt w K mg) : NoAttr K (He.ga K "Works") "pumps" := He.noat_ok (T.c.s.d.fact 99 (f := .noat "Works" "pumps") rfl)
theorem Txt.n_Works_rows (T : Txt w K mg) : NoAttr K (He.ga K "Works") "rows" := He.noat_ok (T.c.s.d.fact 100 (f := .noat "Works" "rows") rfl)
theorem Txt.n_Works_tanks (T : Txt w K mg) : NoAttr K (He.ga K "Works") "tanks" := He.noat_ok (T.c.s.d.fact 101 (f := .noat "Works" "tanks") rfl)
theorem Txt.n_Works_taps (T : Txt w K mg) : NoAttr K (He.ga K "Works") "taps" := He.noat_ok (T.c.s.d.fact 102 (f := .noat "Works" "taps") rfl)
theorem Txt.n_Works_valves (T : Txt w K mg) : NoAttr K (He.ga K "Works") "valves" := He.noat_ok (T.c.s.d.fact 103 (f := .noat "Works" "valves") rfl)
theorem Txt.of {h : Heap} (X : K.In h) (G : h.Ns mainGlobals mg) (c : SaysST fa fn fs pw.main.file exB ts w K) : Txt w K mg := ⟨c, fun i x q => He.glo_ok X G (c.s.d.fact i q), fun i x q => He.free_ok X G (c.s.d.fact i q), fun i x z q => He.int_ok X G (c.s.d.fact i q), fun i x z q => He.str_ok X G (c.s.d.fact i q)⟩
end
abbrev R : PySem.W.OpenRow := PySem.W.OpenLaw.row PySem.Challenge.rw_valvewise_k17_weak_side
abbrev hk : PySem.W.Hook := hookST 5 fa fn fs pw.main.file exB ts
def ob (s : PySem.W.SharedT) : AlST := obsST 5 fa fn fs pw.main.file exB ts (HandSHeadRun.getT s)
theorem ob_eq (s : PySem.W.SharedT) : ob s = hk.obs s.abs := obsST_eq (HandSHeadRun.getT_eq s)
abbrev loose : List PySem.Str := ("_wall" : PySem.Str) :: ("WorksError" : PySem.Str) :: ("InvalidRow" : PySem.Str) :: ("Unknown" : PySem.Str) :: ("InUse" : PySem.Str) :: ("InvalidNumber" : PySem.Str) :: ("InvalidPart" : PySem.Str) :: ("LETTERS" : PySem.Str) :: ("DIGITS" : PySem.Str) :: ("BARRED_NAMES" : PySem.Str) :: ("LONGEST_NAME" : PySem.Str) :: ("is_integer" : PySem.Str) :: ("is_within" : PySem.Str) :: ("is_string" : PySem.Str) :: ("is_name" : PySem.Str) :: ("is_tuple_of" : PySem.Str) :: ("is_strings" : PySem.Str) :: ("LEAST_FOLDS" : PySem.Str) :: ("MOST_FOLDS" : PySem.Str) :: ("feeders" : PySem.Str) :: ("check_part" : PySem.Str) :: ("check_folds" : PySem.Str) :: ("check_valves" : PySem.Str) :: ("valve_cost" : PySem.Str) :: ("valve_count" : PySem.Str) :: ("joins" : PySem.Str) :: ("is_path" : PySem.Str) :: ("valve_loads" : PySem.Str) :: ("list_value" : PySem.Str) :: ("PLACE_KINDS" : PySem.Str) :: ("LINK_KINDS" : PySem.Str) :: ("FORMS" : PySem.Str) :: ("MAXIMA" : PySem.Str) :: ("kind_of" : PySem.Str) :: ("refers_to" : PySem.Str) :: ("is_row_after" : PySem.Str) :: ("_is_full" : PySem.Str) :: ("_meets_conditions" : PySem.Str) :: ("_is_place" : PySem.Str) :: ("_joins_places" : PySem.Str) :: ("_is_valve_after" : PySem.Str) :: ("_is_pump_after" : PySem.Str) :: ("_is_unmetered" : PySem.Str) :: ("row_text" : PySem.Str) :: ("_names_of" : PySem.Str) :: ("Works" : PySem.Str) :: ("cost_of" : PySem.Str) :: ("shows_open" : PySem.Str) :: ("_law_take" : PySem.Str) :: ("_law_stem" : PySem.Str) :: ("_law_name" : PySem.Str) :: ("_law_names" : PySem.Str) :: ("_law_place" : PySem.Str) :: ("_law_link" : PySem.Str) :: ("_law_instrument" : PySem.Str) :: ("_law_group" : PySem.Str) :: ("_law_rows" : PySem.Str) :: ("_law_far" : PySem.Str) :: ("_law_least" : PySem.Str) :: ("_law_value" : PySem.Str) :: ("_law_cost" : PySem.Str) :: ("_law_integer" : PySem.Str) :: ("_law_walk" : PySem.Str) :: ("_law_walks" : PySem.Str) :: ("_law_times" : PySem.Str) :: ("_law_parted" : PySem.Str) :: ("_law_values_right" : PySem.Str) :: ("_law_path_right" : PySem.Str) :: ("_law_crossing_set" : PySem.Str) :: []
theorem run0 (w : World) : HandSHeadRun.RunEq R (PySem.W.view R.prog [76]) hk ob 16000 loose (w.withFollow "special-get-raises" false) := by
  intro os
  kernel_rfl
theorem run1 (w : World) : HandSHeadRun.RunEq R (PySem.W.view R.prog [76]) hk ob 16000 loose (w.withFollow "special-get-raises" true) := by
  intro os
  kernel_rfl
theorem run (w : World) : HandSHeadRun.RunEq R (PySem.W.view R.prog [76]) hk ob 16000 loose w := PySem.W.byRow2 "special-get-raises" (P := fun w => HandSHeadRun.RunEq R (PySem.W.view R.prog [76]) hk ob 16000 loose w) run0 run1 w
end K17

set_option Elab.async false
set_option linter.all false
set_option maxRecDepth 100000
set_option maxHeartbeats 1000000
set_option autoImplicit false
namespace K17
open PySem PySem.Spec PyProof.Rows L2 Ty
/-! ### promises -/
structure Ok (P : Program) (w : World) (K : Fg) (mg : Str → Option Value) (base : Heap) (nm : Str) (f : Addr) (k : Nat) (ps : List Str) (sp : Sp) : Prop where
  ex : ∃ fd, FnOk P w K mg base (L2.CX P w) k f fd ps sp ∧ Binds K fd ps []
  kp : PySem.W.keepIn K (.ref f) = true
  gm : mg nm = some (.ref f)
structure OkM (P : Program) (w : World) (K : Fg) (mg : Str → Option Value) (base : Heap) (f : Addr) (k : Nat) (ps : List Str) (sp : Sp) : Prop where
  ex : ∃ fd, FnOk P w K mg base (L2.CX P w) k f fd ps sp ∧ Binds K fd ps []
structure OkV (P : Program) (w : World) (K : Fg) (mg : Str → Option Value) (base : Heap) (nm : Str) (f : Addr) (k : Nat) (sp : Sp) : Prop where
  fr : FnR P w K mg base (L2.CX P w) k f (spV sp)
  kp : PySem.W.keepIn K (.ref f) = true
  gm : mg nm = some (.ref f)
/-! ### rows -/
inductive Row where
  | node (n : Str)
  | source (n : Str)
  | tank (n : Str) (cap lvl : Int)
  | pipe (n a b : Str)
  | valve (n a b p : Str) (cost : Int)
  | pump (n a b : Str) (rate : Int) (st : Str)
  | tap (n a : Str) (lo hi : Int)
  | meter (n a : Str)
instance : Nonempty Row := ⟨.node ""⟩
def Row.enc : Row → Tu Itm
  | .node n => ⟨[.s "node", .s n]⟩
  | .source n => ⟨[.s "source", .s n]⟩
  | .tank n c l => ⟨[.s "tank", .s n, .i c, .i l]⟩
  | .pipe n a b => ⟨[.s "pipe", .s n, .s a, .s b]⟩
  | .valve n a b p c => ⟨[.s "valve", .s n, .s a, .s b, .s p, .i c]⟩
  | .pump n a b r s => ⟨[.s "pump", .s n, .s a, .s b, .i r, .s s]⟩
  | .tap n a l h => ⟨[.s "tap", .s n, .s a, .i l, .i h]⟩
  | .meter n a => ⟨[.s "meter", .s n, .s a]⟩
def Row.kind : Row → Str
  | .node _ => "node"
  | .source _ => "source"
  | .tank .. => "tank"
  | .pipe .. => "pipe"
  | .valve .. => "valve"
  | .pump .. => "pump"
  | .tap .. => "tap"
  | .meter .. => "meter"
def Row.name : Row → Str
  | .node n => n
  | .source n => n
  | .tank n _ _ => n
  | .pipe n _ _ => n
  | .valve n _ _ _ _ => n
  | .pump n _ _ _ _ => n
  | .tap n _ _ _ => n
  | .meter n _ => n
abbrev rpRow : Rp Row := ⟨fun K G v r => (rpT (i := rpU)).rp K G v r.enc, fun x h => (rpT (i := rpU)).mono x h⟩
theorem upRow : UpW rpRow (rpT (i := rpU)) Row.enc := fun _ _ _ _ h => h
theorem dnRow (K : Fg) (G : Hp) (v : V) (m : Row) (h : (rpT (i := rpU)).rp K G v m.enc) : rpRow.rp K G v m := h
theorem upRows : UpW (rpT (i := rpRow)) (rpT (i := rpT (i := rpU))) (fun m : Tu Row => ⟨m.l.map Row.enc⟩) := fun K G v m h => by
  obtain ⟨a, vs, rfl, h1, h2, h3⟩ := h
  refine ⟨a, vs, rfl, h1, ?_, h3⟩
  have all : ∀ {vs : List V} {ms : List Row}, RpAll rpRow K G vs ms → RpAll (rpT (i := rpU)) K G vs (ms.map Row.enc) := by
    intro vs ms h
    induction h with
    | nil => exact .nil
    | cons a _ ih => exact .cons a ih
  exact all h2
instance : NoO Row rpRow := ⟨fun m h r => NoO.hide (i := rpT (i := rpU)) m h r⟩
/-! ### works -/
structure Wk where
  rows : List Row
  places : List Str
  links : List Str
  valves : List Str
  pumps : List Str
  gates : List Str
  tanks : List Str
  taps : List Str
  meters : List Str
  instruments : List Str
  byName : List (Key × Row)
instance : Nonempty Wk := ⟨⟨[], [], [], [], [], [], [], [], [], [], []⟩⟩
abbrev rTS : Rp (Tu Str) := rpT (i := rpS)

def fsW (m : Wk) : List (Str × Fp) := [(("rows" : Str), fld (rpT (i := rpRow)) ⟨m.rows⟩), (("places" : Str), fld rTS ⟨m.places⟩), (("links" : Str), fld rTS ⟨m.links⟩), (("valves" : Str), fld rTS ⟨m.valves⟩), (("pumps" : Str), fld rTS ⟨m.pumps⟩), (("gates" : Str), fld rTS ⟨m.gates⟩), (("tanks" : Str), fld rTS ⟨m.tanks⟩), (("taps" : Str), fld rTS ⟨m.taps⟩), (("meters" : Str), fld rTS ⟨m.meters⟩), (("instruments" : Str), fld rTS ⟨m.instruments⟩), (("_row_by_name" : Str), fld (rpDi (i := rpRow)) ⟨m.byName⟩)]
abbrev rpWk : Rp Wk := ⟨fun K G v m => ∃ a dx vs, v = .ref a ∧ G a = some (.ins (He.ga K "Works") dx vs) ∧ FlAll K G vs (fsW m), fun x h => by
  obtain ⟨a, dx, vs, h1, h2, h3⟩ := h
  exact ⟨a, dx, vs, h1, x _ _ h2, h3.mono x⟩⟩
section
variable {w : World} {K : Fg} {mg : Str → Option Value}
theorem ins_Wk : InsR K rpWk (He.ga K "Works") := fun G v m h => by
  obtain ⟨a, dx, vs, h1, h2, h3⟩ := h
  exact ⟨a, dx, vs, h1, h2⟩
theorem insN_Wk {n : Str} (hn : ¬ n ∈ (fsW ⟨[], [], [], [], [], [], [], [], [], [], []⟩).map (·.1)) : InsN K rpWk (He.ga K "Works") n := fun G v m h => by
  obtain ⟨a, dx, vs, h1, h2, h3⟩ := h
  refine ⟨a, dx, vs, h1, h2, ?_⟩
  have e : vs.map (·.1) = (fsW m).map (·.1) := h3.names
  cases q : vs.lookup n with
  | none => rfl
  | some u =>
    have z : n ∈ vs.map (·.1) := by
      have : ∀ l : List (Str × V), l.lookup n = some u → n ∈ l.map (·.1) := by
        intro l
        induction l with
        | nil => intro h; cases h
        | cons p l ih =>
          intro h
          rw [List.lookup_cons] at h
          by_cases c : n = p.1
          · rw [List.map_cons, c]
            exact List.mem_cons_self
          · have : (n == p.1) = false := by simpa using c
            rw [this] at h
            exact List.mem_cons_of_mem _ (ih h)
      exact this vs q
    rw [e] at z
    exact absurd z hn
theorem fldW {f : Str} {α : Type} {i : Rp α} {get : Wk → α} (hC : Cls K (He.ga K "Works")) (hA : NoAttr K (He.ga K "Works") f) (h : ∀ m : Wk, ∃ pre post : List (Str × Fp), fsW m = pre ++ (f, fld i (get m)) :: post ∧ ¬ f ∈ pre.map (·.1)) : FldW K rpWk f i get := fun G v m r => by
  obtain ⟨a, dx, vs, rfl, h2, h3⟩ := r
  obtain ⟨pre, post, e, hn⟩ := h m
  obtain ⟨u, l, p⟩ := FlAll.at h3 e hn
  exact ⟨a, _, dx, vs, u, rfl, h2, hC, hA, l, p⟩
theorem fl_rows (T : Txt w K mg) : FldW K rpWk "rows" (rpT (i := rpRow)) (fun m => (⟨m.rows⟩ : Tu Row)) := fldW T.c_Works T.n_Works_rows fun m => ⟨(fsW m).take 0, (fsW m).drop 1, rfl, by simp only [fsW, List.take, List.map]; decide⟩
theorem fl_places (T : Txt w K mg) : FldW K rpWk "places" rTS (fun m => (⟨m.places⟩ : Tu Str)) := fldW T.c_Works T.n_Works_places fun m => ⟨(fsW m).take 1, (fsW m).drop 2, rfl, by simp only [fsW, List.take, List.map]; decide⟩
theorem fl_links (T : Txt w K mg) : FldW K rpWk "links" rTS (fun m => (⟨m.links⟩ : Tu Str)) := fldW T.c_Works T.n_Works_links fun m => ⟨(fsW m).take 2, (fsW m).drop 3, rfl, by simp only [fsW, List.take, List.map]; decide⟩
theorem fl_valves (T : Txt w K mg) : FldW K rpWk "valves" rTS (fun m => (⟨m.valves⟩ : Tu Str)) := fldW T.c_Works T.n_Works_valves fun m => ⟨(fsW m).take 3, (fsW m).drop 4, rfl, by simp only [fsW, List.take, List.map]; decide⟩
theorem fl_pumps (T : Txt w K mg) : FldW K rpWk "pumps" rTS (fun m => (⟨m.pumps⟩ : Tu Str)) := fldW T.c_Works T.n_Works_pumps fun m => ⟨(fsW m).take 4, (fsW m).drop 5, rfl, by simp only [fsW, List.take, List.map]; decide⟩
theorem fl_gates (T : Txt w K mg) : FldW K rpWk "gates" rTS (fun m => (⟨m.gates⟩ : Tu Str)) := fldW T.c_Works T.n_Works_gates fun m => ⟨(fsW m).take 5, (fsW m).drop 6, rfl, by simp only [fsW, List.take, List.map]; decide⟩
theorem fl_tanks (T : Txt w K mg) : FldW K rpWk "tanks" rTS (fun m => (⟨m.tanks⟩ : Tu Str)) := fldW T.c_Works T.n_Works_tanks fun m => ⟨(fsW m).take 6, (fsW m).drop 7, rfl, by simp only [fsW, List.take, List.map]; decide⟩
theorem fl_taps (T : Txt w K mg) : FldW K rpWk "taps" rTS (fun m => (⟨m.taps⟩ : Tu Str)) := fldW T.c_Works T.n_Works_taps fun m => ⟨(fsW m).take 7, (fsW m).drop 8, rfl, by simp only [fsW, List.take, List.map]; decide⟩
theorem fl_meters (T : Txt w K mg) : FldW K rpWk "meters" rTS (fun m => (⟨m.meters⟩ : Tu Str)) := fldW T.c_Works T.n_Works_meters fun m => ⟨(fsW m).take 8, (fsW m).drop 9, rfl, by simp only [fsW, List.take, List.map]; decide⟩
theorem fl_instruments (T : Txt w K mg) : FldW K rpWk "instruments" rTS (fun m => (⟨m.instruments⟩ : Tu Str)) := fldW T.c_Works T.n_Works_instruments fun m => ⟨(fsW m).take 9, (fsW m).drop 10, rfl, by simp only [fsW, List.take, List.map]; decide⟩
theorem fl_row_by_name (T : Txt w K mg) : FldW K rpWk "_row_by_name" (rpDi (i := rpRow)) (fun m => (⟨m.byName⟩ : Di Row)) := fldW T.c_Works T.n_Works__row_by_name fun m => ⟨(fsW m).take 10, (fsW m).drop 11, rfl, by simp only [fsW, List.take, List.map]; decide⟩
theorem rep_Wk (s : List Row × List Str × List Str × List Str × List Str × List Str × List Str × List Str × List Str × List Str × List (Key × Row)) (G : Hp) (q dx : Addr) (vs : List (Str × V)) (h : G q = some (.ins (He.ga K "Works") dx vs)) (f : FlAll K G vs (fsW ⟨s.1, s.2.1, s.2.2.1, s.2.2.2.1, s.2.2.2.2.1, s.2.2.2.2.2.1, s.2.2.2.2.2.2.1, s.2.2.2.2.2.2.2.1, s.2.2.2.2.2.2.2.2.1, s.2.2.2.2.2.2.2.2.2.1, s.2.2.2.2.2.2.2.2.2.2⟩)) :
    rpWk.rp K G (.ref q) ⟨s.1, s.2.1, s.2.2.1, s.2.2.2.1, s.2.2.2.2.1, s.2.2.2.2.2.1, s.2.2.2.2.2.2.1, s.2.2.2.2.2.2.2.1, s.2.2.2.2.2.2.2.2.1, s.2.2.2.2.2.2.2.2.2.1, s.2.2.2.2.2.2.2.2.2.2⟩ := ⟨q, dx, vs, rfl, h, f⟩
end
/-! ### the dict of the forms -/
abbrev X3f : Type := X3 Int (Tu Int) (Tu Int)
abbrev formL : List (Str × X3f) := [("node", ⟨2, ⟨[]⟩, ⟨[]⟩⟩), ("source", ⟨2, ⟨[]⟩, ⟨[]⟩⟩), ("tank", ⟨4, ⟨[2, 3]⟩, ⟨[]⟩⟩), ("pipe", ⟨4, ⟨[]⟩, ⟨[2, 3]⟩⟩), ("valve", ⟨6, ⟨[5]⟩, ⟨[2, 3]⟩⟩), ("pump", ⟨6, ⟨[4]⟩, ⟨[2, 3]⟩⟩), ("tap", ⟨5, ⟨[3, 4]⟩, ⟨[2]⟩⟩), ("meter", ⟨3, ⟨[]⟩, ⟨[2]⟩⟩)]
abbrev oX3 : OfKd X3f (rpX3 (i0 := rpI) (i1 := rpT (i := rpI)) (i2 := rpT (i := rpI))) := inferInstance
abbrev formK : List (Str × Kd) := formL.map fun p => (p.1, oX3.enc p.2)
section
variable {w : World} {K : Fg} {mg : Str → Option Value}
theorem Txt.ktab (T : Txt w K mg) : KTab K w (He.ga K "FORMS") formK := tab_of T.t_FORMS T.x_forms
end
end K17

set_option Elab.async false
set_option linter.all false
set_option maxRecDepth 100000
set_option maxHeartbeats 1000000
set_option autoImplicit false
namespace K17
open PySem PySem.Spec PyProof.Rows L2 Ty NdefX
instance {α : Type} : Nonempty (Di α) := ⟨⟨[]⟩⟩
abbrev mkWk (s : List Row × List Str × List Str × List Str × List Str × List Str × List Str × List Str × List Str × List Str × List (Key × Row)) : Wk := ⟨s.1, s.2.1, s.2.2.1, s.2.2.2.1, s.2.2.2.2.1, s.2.2.2.2.2.1, s.2.2.2.2.2.2.1, s.2.2.2.2.2.2.2.1, s.2.2.2.2.2.2.2.2.1, s.2.2.2.2.2.2.2.2.2.1, s.2.2.2.2.2.2.2.2.2.2⟩
abbrev PK : List Str := ["node", "source", "tank"]
abbrev LK : List Str := ["pipe", "valve"]
abbrev MAXL : List (List Str × Int) := [(PK, 16), (LK, 24), (["valve"], 8), (["pump"], 4), (["tank"], 2), (["tap"], 8), (["meter"], 6)]
abbrev MAXI : Tu (Tu Str × Int) := ⟨MAXL.map fun p => (⟨p.1⟩, p.2)⟩
/-! ### names -/
def lowC (c : Nat) : Prop := 97 ≤ c ∧ c ≤ 122
def digC (c : Nat) : Prop := 48 ≤ c ∧ c ≤ 57
def barred (s : Str) : Prop := s = "if" ∨ s = "then" ∨ s = "else" ∨ s = "and"
structure NameOk (s : Str) : Prop where
  len : s.cps.size ≤ 12
  head : ∃ c r, s.cps.toList = c :: r ∧ lowC c
  all : ∀ c ∈ s.cps.toList, lowC c ∨ digC c
  bar : ¬ barred s
/-! ### rows -/
def kindOf (rs : List Row) (n : Str) : Str := match rs.find? fun r => decide (r.name = n) with
  | some r => r.kind
  | none => ""
def cnt (rs : List Row) (ks : List Str) : Nat := (rs.filter fun r => decide (r.kind ∈ ks)).length
def nms (ks : List Str) (rs : List Row) : List Str := (rs.filter fun r => decide (r.kind ∈ ks)).map Row.name
def isPl (rs : List Row) (n : Str) : Bool := decide (kindOf rs n ∈ PK)
def joinsB (rs : List Row) (a b : Str) : Bool := isPl rs a && (isPl rs b && !decide (a = b))
def unm (rs : List Row) (a : Str) : Bool := decide (kindOf rs a ∈ LK) && !(rs.any fun r => match r with
  | .meter _ b => decide (b = a)
  | _ => false)
def Row.refs : Row → List Str
  | .pipe _ a b => [a, b]
  | .valve _ a b _ _ => [a, b]
  | .pump _ a b _ _ => [a, b]
  | .tap _ a _ _ => [a]
  | .meter _ a => [a]
  | _ => []
def Meets (rs : List Row) : Row → Prop
  | .tank _ c l => (1 ≤ c ∧ c ≤ 9) ∧ (0 ≤ l ∧ l ≤ c)
  | .pipe _ a b => joinsB rs a b = true
  | .valve _ a b p c => joinsB rs a b = true ∧ (p = "open" ∨ p = "shut") ∧ (1 ≤ c ∧ c ≤ 99)
  | .pump _ a b r s => joinsB rs a b = true ∧ kindOf rs b = "tank" ∧ (1 ≤ r ∧ r ≤ 9) ∧ (s = "on" ∨ s = "off")
  | .tap _ a l h => isPl rs a = true ∧ (0 ≤ l ∧ l ≤ h) ∧ h ≤ 9
  | .meter _ a => unm rs a = true
  | _ => True
def NotFull (rs : List Row) (k : Str) : Prop := ∀ p ∈ MAXL, k ∈ p.1 → (cnt rs p.1 : Int) < p.2
structure VRow (rs : List Row) (r : Row) : Prop where
  name : NameOk r.name
  refs : ∀ n ∈ r.refs, NameOk n
  new : kindOf rs r.name = ""
  full : NotFull rs r.kind
  meets : Meets rs r
inductive VRows : List Row → Prop
  | nil : VRows []
  | snoc {rs : List Row} {r : Row} : VRows rs → VRow rs r → VRows (rs ++ [r])
def byN (rs : List Row) : List (Key × Row) := rs.foldl (fun d r => putM d (.inr r.name) r) []
def mkW (rs : List Row) : Wk := ⟨rs, nms PK rs, nms LK rs, nms ["valve"] rs, nms ["pump"] rs, nms ["valve"] rs ++ nms ["pump"] rs, nms ["tank"] rs, nms ["tap"] rs, nms ["meter"] rs, nms ["meter"] rs ++ nms ["tap"] rs, byN rs⟩
def Row.ends : Row → Option (Str × Str)
  | .pipe _ a b => some (a, b)
  | .valve _ a b _ _ => some (a, b)
  | .pump _ a b _ _ => some (a, b)
  | _ => none
def rowAt (m : Wk) (n : Str) : Option Row := valM m.byName (.inr n)
/-! ### paths -/
abbrev FK : List Str := ["source", "tank"]
def odds {α : Type} : List α → List α
  | _ :: b :: r => b :: odds r
  | _ => []
def evens {α : Type} : List α → List α
  | a :: _ :: r => a :: evens r
  | [a] => [a]
  | [] => []
/-- a walk: a place, and pairs of a link and a place -/
def flat (a : Str) : List (Str × Str) → List Str
  | [] => [a]
  | p :: r => a :: p.1 :: flat p.2 r
def Step (m : Wk) (l a b : Str) : Prop := l ∈ m.links ∧ ∃ r, rowAt m l = some r ∧ (r.ends = some (a, b) ∨ r.ends = some (b, a))
def Chain (m : Wk) (a : Str) : List (Str × Str) → Prop
  | [] => True
  | p :: r => Step m p.1 a p.2 ∧ Chain m p.2 r
def Walk (m : Wk) (path : List Str) : Prop := ∃ a ps, path = flat a ps ∧ a ∈ nms FK m.rows ∧ Chain m a ps ∧ (a :: ps.map (·.2)).Nodup
def PathOk (m : Wk) (part path : List Str) : Prop := Walk m path ∧ ∃ e ∈ part, path.getLast? = some e
structure PartOk (m : Wk) (part : List Str) : Prop where
  ne : part ≠ []
  nd : part.Nodup
  few : part.length < 100
  pl : ∀ n ∈ part, n ∈ m.places
def vcnt (path valves : List Str) : Nat := ((odds path).filter fun l => decide (l ∈ valves)).length
abbrev Pairs : Type := List (Tu Str × Int)
def load (ps : Pairs) (v : Str) : Int := ((ps.filter fun p => decide (v ∈ odds p.1.l)).map (·.2)).sum
def loadsD (vs : List Str) (ps : Pairs) : List (Key × Int) := vs.foldl (fun d v => putM d (.inr v) (load ps v)) []
def costAt (m : Wk) (v : Str) : Int := match rowAt m v with
  | some (.valve _ _ _ _ c) => c
  | _ => 0
def valueOf (m : Wk) (folds : Int) (ps : Pairs) : Int := folds * (ps.map (·.2)).sum - (m.valves.map fun v => max 0 (load ps v - costAt m v)).sum
def costOf (m : Wk) (vs : List Str) : Int := ((m.valves.filter fun v => decide (v ∈ vs)).map (costAt m)).sum
/-- a works as the constructor makes it -/
def IsW (m : Wk) : Prop := ∃ rs, VRows rs ∧ m = mkW rs
def SmallP (ps : Pairs) : Prop := ps.length ≤ 1000 ∧ ∀ p ∈ ps, p.1.l.length ≤ 1000 ∧ (0 ≤ p.2 ∧ p.2 ≤ 100000)
/-! ### the law's own -/
def ShapeOk (sh : List Int) : Prop := ∃ b c d, sh = [8, b, c, d] ∧ 0 < c
def CountsOk (cs : List Int) : Prop := ∃ a b c d e, cs = [a, b, c, d, e] ∧ (1 ≤ a ∧ a ≤ 16) ∧ (1 ≤ b ∧ b ≤ 24) ∧ (0 ≤ c ∧ c ≤ 2) ∧ (0 ≤ d ∧ d ≤ 2) ∧ (0 ≤ e ∧ e ≤ 2)
def StemOk (s : Str) : Prop := s.cps.size ≤ 10 ∧ ∀ c ∈ s.cps.toList, lowC c
structure NewOk (rs : List Row) (n : Str) : Prop where
  rows : VRows rs
  few : rs.length ≤ 60
  name : NameOk n
  new : kindOf rs n = ""
def FewIns (rs : List Row) : Prop := cnt rs ["tap"] < 8 ∧ cnt rs ["pump"] < 4 ∧ cnt rs ["meter"] < 6
def FarOk (rs : List Row) (cs : List Str) (far : List (Key × Int)) : Prop := (∀ k v, valM far k = some v → 0 ≤ v) ∧ ∀ path e, Walk (mkW rs) path → path.getLast? = some e → ∃ v, valM far (.inr e) = some v ∧ v ≤ vcnt path cs
def LeastOk (rs : List Row) (part cs : List Str) (n : Int) : Prop := ∀ path, PathOk (mkW rs) part path → 0 ≤ n ∧ n ≤ vcnt path cs
def WalksOk (rs : List Row) (ws : List (Tu Str)) : Prop := ws.length ≤ 6 ∧ ∀ w ∈ ws, Walk (mkW rs) w.l
def PairsOk (rs : List Row) (k : Nat) (ps : Pairs) : Prop := ps.length ≤ k ∧ ∀ p ∈ ps, Walk (mkW rs) p.1.l ∧ (1 ≤ p.2 ∧ p.2 ≤ 1000)
def sumBy (f : List Str → Bool) (ps : Pairs) : Int := ((ps.filter fun p => f p.1.l).map (·.2)).sum
def Parted (ps qs : Pairs) : Prop := ∀ f, sumBy f qs = sumBy f ps
def CrossOk (rs : List Row) (part : List Str) (many : Int) (vs cs : List Str) : Prop := cs.Nodup ∧ (∀ c ∈ cs, c ∈ vs) ∧ ∀ path, PathOk (mkW rs) part path → many ≤ vcnt path cs
/-! ### plain laws: rows -/
theorem any_mem (l : List Str) (a : Str) : (l.any fun m => m == a) = decide (a ∈ l) := by
  induction l with
  | nil => rfl
  | cons b l ih =>
    rw [List.any_cons, ih]
    by_cases h : b = a
    · subst h
      simp
    · have : (b == a) = false := by simpa using h
      rw [this]
      simp [Ne.symm h]
theorem enc0 (r : Row) : atI r.enc.l 0 = some (.s r.kind) := by cases r <;> rfl
theorem enc1 (r : Row) : atI r.enc.l 1 = some (.s r.name) := by cases r <;> rfl
theorem kindOf_nil (n : Str) : kindOf [] n = "" := rfl
theorem kindOf_hit {r : Row} {rs : List Row} {n : Str} (h : r.name = n) : kindOf (r :: rs) n = r.kind := by
  unfold kindOf
  rw [List.find?_cons_of_pos (by simpa using h)]
theorem kindOf_miss {r : Row} {rs : List Row} {n : Str} (h : ¬ r.name = n) : kindOf (r :: rs) n = kindOf rs n := by
  unfold kindOf
  rw [List.find?_cons_of_neg (by simpa using h)]
theorem kinds (P : Str → Prop) (h : P "node" ∧ P "source" ∧ P "tank" ∧ P "pipe" ∧ P "valve" ∧ P "pump" ∧ P "tap" ∧ P "meter") (r : Row) : P r.kind := by
  obtain ⟨h1, h2, h3, h4, h5, h6, h7, h8⟩ := h
  cases r <;> assumption
theorem kind_ne (r : Row) : r.kind ≠ "" := kinds (fun k => k ≠ "") (by decide) r
theorem kindOf_mem {rs : List Row} {n : Str} (h : kindOf rs n ≠ "") : ∃ r ∈ rs, r.name = n ∧ r.kind = kindOf rs n := by
  induction rs with
  | nil => exact absurd rfl h
  | cons r rs ih =>
    by_cases e : r.name = n
    · exact ⟨r, List.mem_cons_self, e, (kindOf_hit e).symm⟩
    · rw [kindOf_miss e] at h ⊢
      obtain ⟨q, h1, h2, h3⟩ := ih h
      exact ⟨q, List.mem_cons_of_mem _ h1, h2, h3⟩
theorem kindOf_new {rs : List Row} {n : Str} (h : kindOf rs n = "") : ∀ r ∈ rs, r.name ≠ n := by
  induction rs with
  | nil => exact fun _ h => nomatch h
  | cons q rs ih =>
    intro r hr e
    by_cases z : q.name = n
    · rw [kindOf_hit z] at h
      exact kind_ne q h
    · rw [kindOf_miss z] at h
      rcases List.mem_cons.mp hr with rfl | hr
      · exact z e
      · exact ih h r hr e
theorem kindOf_none {rs : List Row} {n : Str} (h : ∀ r ∈ rs, r.name ≠ n) : kindOf rs n = "" := by
  induction rs with
  | nil => rfl
  | cons q rs ih =>
    rw [kindOf_miss (h q List.mem_cons_self)]
    exact ih fun r hr => h r (List.mem_cons_of_mem _ hr)
theorem cnt_snoc (rs : List Row) (r : Row) (ks : List Str) : cnt (rs ++ [r]) ks = cnt rs ks + if r.kind ∈ ks then 1 else 0 := by
  unfold cnt
  rw [List.filter_append, List.length_append]
  by_cases h : r.kind ∈ ks
  · simp [h]
  · simp [h]
theorem cnt_nms (rs : List Row) (ks : List Str) : (nms ks rs).length = cnt rs ks := by
  unfold nms cnt
  rw [List.length_map]
theorem VRows.len {rs : List Row} (h : VRows rs) : rs.length = cnt rs PK + cnt rs LK + cnt rs ["pump"] + cnt rs ["tap"] + cnt rs ["meter"] := by
  induction h with
  | nil => rfl
  | @snoc rs r _ _ ih =>
    rw [List.length_append, List.length_singleton, ih, cnt_snoc, cnt_snoc, cnt_snoc, cnt_snoc, cnt_snoc]
    have z : (1 : Nat) = (if r.kind ∈ PK then 1 else 0) + (if r.kind ∈ LK then 1 else 0) + (if r.kind ∈ ([("pump" : Str)]) then 1 else 0) + (if r.kind ∈ ([("tap" : Str)]) then 1 else 0) + (if r.kind ∈ ([("meter" : Str)]) then 1 else 0) := kinds (fun k => (1 : Nat) = (if k ∈ PK then 1 else 0) + (if k ∈ LK then 1 else 0) + (if k ∈ ([("pump" : Str)]) then 1 else 0) + (if k ∈ ([("tap" : Str)]) then 1 else 0) + (if k ∈ ([("meter" : Str)]) then 1 else 0)) (by decide) r
    omega
theorem VRows.full {rs : List Row} (h : VRows rs) : ∀ p ∈ MAXL, (cnt rs p.1 : Int) ≤ p.2 := by
  induction h with
  | nil => intro p hp; simp only [MAXL, List.mem_cons, List.not_mem_nil, or_false] at hp; rcases hp with rfl | rfl | rfl | rfl | rfl | rfl | rfl <;> decide
  | @snoc rs r _ v ih =>
    intro p hp
    rw [cnt_snoc]
    have h1 := ih p hp
    by_cases z : r.kind ∈ p.1
    · have := v.full p hp z
      rw [if_pos z]
      omega
    · rw [if_neg z]
      omega
theorem VRows.few {rs : List Row} (h : VRows rs) : rs.length ≤ 58 ∧ cnt rs PK ≤ 16 ∧ cnt rs LK ≤ 24 ∧ cnt rs ["valve"] ≤ 8 := by
  have e := h.len
  have a := h.full (PK, 16) (by simp [MAXL])
  have b := h.full (LK, 24) (by simp [MAXL])
  have c := h.full (["valve"], 8) (by simp [MAXL])
  have d := h.full (["pump"], 4) (by simp [MAXL])
  have g := h.full (["tap"], 8) (by simp [MAXL])
  have i := h.full (["meter"], 6) (by simp [MAXL])
  dsimp only at a b c d g i
  omega
theorem VRows.nodup {rs : List Row} (h : VRows rs) : (rs.map Row.name).Nodup := by
  induction h with
  | nil => exact List.nodup_nil
  | @snoc rs r _ v ih =>
    rw [List.map_append, List.nodup_append]
    refine ⟨ih, by simp, fun a ha b hb e => ?_⟩
    obtain ⟨q, hq, rfl⟩ := List.mem_map.mp ha
    rw [List.map_singleton, List.mem_singleton] at hb
    exact kindOf_new v.new q hq (e.trans hb)
theorem nms_sub (rs : List Row) (ks : List Str) : List.Sublist (nms ks rs) (rs.map Row.name) := by
  unfold nms
  exact List.Sublist.map _ List.filter_sublist
theorem mem_nms {rs : List Row} {ks : List Str} {n : Str} : n ∈ nms ks rs ↔ ∃ r ∈ rs, r.kind ∈ ks ∧ r.name = n := by
  unfold nms
  rw [List.mem_map]
  constructor
  · rintro ⟨r, hr, e⟩
    obtain ⟨h1, h2⟩ := List.mem_filter.mp hr
    exact ⟨r, h1, by simpa using h2, e⟩
  · rintro ⟨r, h1, h2, e⟩
    exact ⟨r, List.mem_filter.mpr ⟨h1, by simpa using h2⟩, e⟩
theorem valM_map {α : Type} (d : List (Key × α)) (k : Key) (v : α) (k' : Key) : valM (d.map fun kv => if kv.1 = k then (kv.1, v) else kv) k' = if k' = k then (if (d.any fun kv => decide (kv.1 = k)) = true then some v else none) else valM d k' := by
  induction d with
  | nil =>
    show none = _
    by_cases h : k' = k
    · simp [h]
    · rw [if_neg h]
      rfl
  | cons p d ih =>
    have c : ∀ (q : Key × α) (l : List (Key × α)) (j : Key), valM (q :: l) j = if q.1 = j then some q.2 else valM l j := fun q l j => by
      unfold valM
      by_cases z : q.1 = j
      · rw [List.find?_cons_of_pos (by simpa using z), if_pos z]
        rfl
      · rw [List.find?_cons_of_neg (by simpa using z), if_neg z]
    rw [List.map_cons, c, ih, List.any_cons, c]
    by_cases h1 : p.1 = k
    · rw [if_pos h1]
      by_cases h2 : k' = k
      · subst h2
        simp [h1]
      · have : ¬ p.1 = k' := fun z => h2 (z.symm.trans h1)
        simp [h1, h2, this, Ne.symm h2]
    · rw [if_neg h1]
      have e : decide (p.1 = k) = false := decide_eq_false h1
      rw [e, Bool.false_or]
      by_cases h2 : k' = k
      · subst h2
        rw [if_neg h1, if_pos rfl, if_pos rfl]
      · simp [h2]
theorem valM_app {α : Type} (d : List (Key × α)) (k : Key) (v : α) (k' : Key) : valM (d ++ [(k, v)]) k' = match valM d k' with
  | some u => some u
  | none => if k = k' then some v else none := by
  unfold valM
  rw [List.find?_append]
  cases h : d.find? fun kv => decide (kv.1 = k') with
  | some u => rfl
  | none =>
    by_cases z : k = k'
    · simp [z]
    · simp [z]
theorem valM_none {α : Type} {d : List (Key × α)} {k : Key} (h : ¬ (d.any fun kv => decide (kv.1 = k)) = true) : valM d k = none := by
  unfold valM
  rw [List.find?_eq_none.mpr fun x hx e => h (List.any_eq_true.mpr ⟨x, hx, e⟩)]
  rfl
theorem valM_put {α : Type} (d : List (Key × α)) (k : Key) (v : α) (k' : Key) : valM (putM d k v) k' = if k' = k then some v else valM d k' := by
  unfold putM
  by_cases h : (d.any fun kv => decide (kv.1 = k)) = true
  · rw [if_pos h, valM_map, if_pos h]
  · rw [if_neg h, valM_app]
    by_cases z : k' = k
    · subst z
      rw [valM_none h]
    · rw [if_neg z, if_neg (Ne.symm z)]
      cases valM d k' <;> rfl
theorem valM_put_same {α : Type} (d : List (Key × α)) (k : Key) (v : α) : valM (putM d k v) k = some v := by rw [valM_put, if_pos rfl]
theorem valM_put_ne {α : Type} (d : List (Key × α)) (k k' : Key) (v : α) (h : k ≠ k') : valM (putM d k v) k' = valM d k' := by rw [valM_put, if_neg (Ne.symm h)]
theorem fnd {n : Str} (d : List (Key × Row)) (rs : List Row) : valM (rs.foldl (fun d r => putM d (.inr r.name) r) d) (.inr n) = match rs.reverse.find? (fun r => decide (r.name = n)) with
  | some r => some r
  | none => valM d (.inr n) := by
  induction rs generalizing d with
  | nil => rfl
  | cons r rs ih =>
    rw [List.foldl_cons, ih, List.reverse_cons, List.find?_append]
    cases h : rs.reverse.find? fun r => decide (r.name = n) with
    | some q => rfl
    | none =>
      rw [valM_put]
      by_cases z : r.name = n
      · subst z
        simp
      · have : ¬ (Sum.inr n : Key) = Sum.inr r.name := fun e => z (Sum.inr.inj e).symm
        simp [z, this]
theorem rowAt_W {rs : List Row} (h : VRows rs) {n : Str} {r : Row} : rowAt (mkW rs) n = some r ↔ r ∈ rs ∧ r.name = n := by
  have e : rowAt (mkW rs) n = match rs.reverse.find? (fun r => decide (r.name = n)) with
    | some r => some r
    | none => none := fnd [] rs
  rw [e]
  have nd := h.nodup
  constructor
  · intro q
    cases z : rs.reverse.find? fun r => decide (r.name = n) with
    | none =>
      rw [z] at q
      cases q
    | some u =>
      rw [z] at q
      cases q
      exact ⟨List.mem_reverse.mp (List.mem_of_find?_eq_some z), by simpa using List.find?_some z⟩
  · rintro ⟨h1, h2⟩
    cases z : rs.reverse.find? fun r => decide (r.name = n) with
    | none =>
      have := List.find?_eq_none.mp z r (List.mem_reverse.mpr h1)
      simp [h2] at this
    | some u =>
      have u1 := List.mem_reverse.mp (List.mem_of_find?_eq_some z)
      have u2 : u.name = n := by simpa using List.find?_some z
      have uniq : ∀ {l : List Row}, (l.map Row.name).Nodup → ∀ {a b : Row}, a ∈ l → b ∈ l → a.name = b.name → a = b := by
        intro l
        induction l with
        | nil => intro _ a b ha; cases ha
        | cons c l ih =>
          intro hn a b ha hb hab
          rw [List.map_cons, List.nodup_cons] at hn
          rcases List.mem_cons.mp ha with ea | ea
          · rcases List.mem_cons.mp hb with eb | eb
            · exact ea.trans eb.symm
            · exact absurd (List.mem_map.mpr ⟨b, eb, hab.symm.trans (congrArg Row.name ea)⟩) hn.1
          · rcases List.mem_cons.mp hb with eb | eb
            · exact absurd (List.mem_map.mpr ⟨a, ea, hab.trans (congrArg Row.name eb)⟩) hn.1
            · exact ih hn.2 ea eb hab
      exact congrArg some (uniq nd u1 h1 (u2.trans h2.symm))
theorem valve_of {rs : List Row} (h : VRows rs) {v : Str} (hv : v ∈ nms ["valve"] rs) : ∃ a b p c, Row.valve v a b p c ∈ rs ∧ rowAt (mkW rs) v = some (.valve v a b p c) ∧ (1 ≤ c ∧ c ≤ 99) := by
  obtain ⟨r, h1, h2, h3⟩ := mem_nms.mp hv
  have all : ∀ {rs : List Row}, VRows rs → ∀ r ∈ rs, ∃ qs, Meets qs r := by
    intro rs h
    induction h with
    | nil => exact fun _ h => nomatch h
    | @snoc qs q _ v ih =>
      intro r hr
      rcases List.mem_append.mp hr with hr | hr
      · exact ih r hr
      · rw [List.mem_singleton.mp hr]
        exact ⟨qs, v.meets⟩
  obtain ⟨qs, m⟩ := all h r h1
  cases r with
  | valve n a b p c =>
    obtain rfl : n = v := h3
    exact ⟨a, b, p, c, h1, (rowAt_W h).mpr ⟨h1, rfl⟩, m.2.2⟩
  | _ => exact absurd (show (_ : Str) ∈ ([("valve" : Str)]) from h2) (by simp only [Row.kind]; decide)

theorem lowA (c : Nat) : c ∈ (Str.ofString "abcdefghijklmnopqrstuvwxyz").cps.toList ↔ lowC c := by
  have e : (Str.ofString "abcdefghijklmnopqrstuvwxyz").cps.toList = (List.range 26).map (· + 97) := by decide +kernel
  rw [e, List.mem_map]
  unfold lowC
  constructor
  · rintro ⟨a, h, rfl⟩
    have := List.mem_range.mp h
    omega
  · intro h
    exact ⟨c - 97, List.mem_range.mpr (by omega), by omega⟩
theorem digA (c : Nat) : c ∈ (Str.ofString "0123456789").cps.toList ↔ digC c := by
  have e : (Str.ofString "0123456789").cps.toList = (List.range 10).map (· + 48) := by decide +kernel
  rw [e, List.mem_map]
  unfold digC
  constructor
  · rintro ⟨a, h, rfl⟩
    have := List.mem_range.mp h
    omega
  · intro h
    exact ⟨c - 48, List.mem_range.mpr (by omega), by omega⟩
theorem str_len (s : Str) : s.length = s.cps.toList.length := by
  show s.cps.size = _
  simp
theorem sz : sizeLine = 16777216 := rfl
theorem all_true {α : Type} (l : List α) (f : α → Bool) (h : ∀ x ∈ l, f x = true) : (l.map f).all id = true := by
  rw [List.all_map]
  exact List.all_eq_true.mpr fun x hx => h x hx
theorem lcAll {α β : Type} {Φt : α → Pt Bool} {Φe : α → Pt β} {post : List β → Prop} (g : α → β) (xs : List α) (ht : ∀ x ∈ xs, ∀ (P : Bool → Prop) ep, P true → Φt x P ep) (he : ∀ x ∈ xs, ∀ (P : β → Prop) ep, P (g x) → Φe x P ep) (h : post (xs.map g)) : lcP Φt Φe post xs [] :=
  lcP_eq (fun _ => true) g xs ht (fun x hx _ => he x hx) (by rw [List.filter_eq_self.mpr fun _ _ => rfl]; exact h)
theorem forAll {α β : Type} {Φb : α → Unit → Pt (Out Unit Unit β)} {fin : Unit → Prop} {rt : β → Prop} {ep : Exn → Prop} (xs : List α) (h : ∀ x ∈ xs, ∀ P : Out Unit Unit β → Prop, P (.nx ()) → Φb x () P ep) (hf : fin ()) : forP Φb fin rt ep xs () := by
  refine forP_ind (fun rest _ => ∀ x ∈ rest, x ∈ xs) (fun _ _ => hf) (fun x r s next hx hi => ?_) xs () fun _ h => h
  exact h x (hi x List.mem_cons_self) _ (hx () fun y hy => hi y (List.mem_cons_of_mem _ hy))
/-! ### cuts of lists -/
theorem pick_eq {α : Type} : ∀ (ys : List α) (f : Nat → Option α) (n : Nat), n = ys.length → (∀ k, k < n → f k = ys[k]?) → (List.range n).filterMap f = ys
  | [], f, n, h, _ => by rw [h]; rfl
  | y :: ys, f, n, h, hf => by
    subst h
    have h0 : f 0 = some y := hf 0 (Nat.succ_pos _)
    show (List.range (ys.length + 1)).filterMap f = _
    rw [List.range_succ_eq_map, List.filterMap_cons, h0, List.filterMap_map]
    exact congrArg (y :: ·) (pick_eq ys (f ∘ Nat.succ) ys.length rfl fun k hk => hf (k + 1) (Nat.succ_lt_succ hk))
theorem odds_get {α : Type} : ∀ (xs : List α) (k : Nat), (odds xs)[k]? = xs[2 * k + 1]?
  | [], k => by rfl
  | [a], k => by rw [show odds [a] = [] from rfl, List.getElem?_eq_none (Nat.zero_le _), List.getElem?_eq_none (by show 1 ≤ 2 * k + 1; omega)]
  | a :: b :: r, 0 => rfl
  | a :: b :: r, k + 1 => odds_get r k
theorem evens_get {α : Type} : ∀ (xs : List α) (k : Nat), (evens xs)[k]? = xs[2 * k]?
  | [], k => by rfl
  | [a], 0 => rfl
  | [a], k + 1 => by rw [List.getElem?_eq_none (Nat.succ_le_succ (Nat.zero_le _)), List.getElem?_eq_none (by show 1 ≤ 2 * (k + 1); omega)]
  | a :: b :: r, 0 => rfl
  | a :: b :: r, k + 1 => evens_get r k
theorem odds_len {α : Type} : ∀ xs : List α, (odds xs).length = xs.length / 2
  | [] => by simp [odds]
  | [a] => by simp [odds]
  | a :: b :: r => by
    show (odds r).length + 1 = (r.length + 1 + 1) / 2
    rw [odds_len r]
    omega
theorem evens_len {α : Type} : ∀ xs : List α, (evens xs).length = (xs.length + 1) / 2
  | [] => by simp [evens]
  | [a] => by simp [evens]
  | a :: b :: r => by
    show (evens r).length + 1 = (r.length + 1 + 1 + 1) / 2
    rw [evens_len r]
    omega
theorem cut_odds {α : Type} (xs : List α) : cut3 xs (some 1) none 2 = odds xs := by
  unfold cut3 Builtin.Slice.sliceAdjust Builtin.Slice.slicePlaces
  simp only [show ¬ ((2 : Int) < 0) by decide, show ¬ ((1 : Int) < 0) by decide, show (2 : Int) > 0 by decide, if_true, if_false]
  have l := odds_len xs
  refine pick_eq _ _ _ ?_ fun k hk => ?_
  · rw [l]
    split <;> omega
  · rw [odds_get]
    congr 1
    split at hk <;> omega
theorem cut_evens {α : Type} (xs : List α) : cut3 xs none none 2 = evens xs := by
  unfold cut3 Builtin.Slice.sliceAdjust Builtin.Slice.slicePlaces
  simp only [show ¬ ((2 : Int) < 0) by decide, show (2 : Int) > 0 by decide, if_true, if_false]
  have l := evens_len xs
  refine pick_eq _ _ _ ?_ fun k hk => ?_
  · rw [l]
    split <;> omega
  · rw [evens_get]
    congr 1
    omega
theorem cut_rev {α : Type} (xs : List α) : cut3 xs none none (-1) = xs.reverse := by
  unfold cut3 Builtin.Slice.sliceAdjust Builtin.Slice.slicePlaces
  simp only [show ((-1 : Int) < 0) by decide, show ¬ ((-1 : Int) > 0) by decide, if_true, if_false, show - -(1 : Int) = 1 by decide, Int.ediv_one]
  refine pick_eq _ _ _ ?_ fun k hk => ?_
  · rw [List.length_reverse]
    split <;> omega
  · have hl : k < xs.length := by split at hk <;> omega
    rw [List.getElem?_reverse hl]
    congr 1
    omega
theorem atI_nat {α : Type} (xs : List α) (k : Nat) : atI xs (k : Int) = xs[k]? := by
  unfold atI ixN
  rw [if_pos (by omega)]
  by_cases h : (k : Int) < xs.length
  · rw [if_pos h, Option.bind_some, Int.toNat_natCast]
  · rw [if_neg h, List.getElem?_eq_none (by omega)]
    rfl
theorem atI_of {α : Type} {xs : List α} {i : Int} {k : Nat} (h : i = (k : Int)) : atI xs i = xs[k]? := by rw [h, atI_nat]
theorem atI_last {α : Type} (xs : List α) : atI xs (-1) = xs.getLast? := by
  unfold atI ixN
  rw [if_neg (by decide)]
  cases xs with
  | nil => rfl
  | cons a r =>
    rw [if_pos (by simp only [List.length_cons]; omega), Option.bind_some, List.getLast?_eq_getElem?]
    congr 1
    simp only [List.length_cons]
    omega
theorem atI_in {α : Type} {xs : List α} {i : Int} (h0 : 0 ≤ i) (h1 : i < xs.length) : ∃ m, atI xs i = some m ∧ m ∈ xs ∧ xs[i.toNat]? = some m := by
  obtain ⟨k, rfl⟩ := Int.eq_ofNat_of_zero_le h0
  have hk : k < xs.length := by omega
  exact ⟨xs[k], by rw [atI_nat, List.getElem?_eq_getElem hk], List.getElem_mem hk, by rw [Int.toNat_natCast, List.getElem?_eq_getElem hk]⟩
/-! ### walks -/
theorem odds_flat : ∀ (a : Str) (ps : List (Str × Str)), odds (flat a ps) = ps.map (·.1)
  | _, [] => rfl
  | _, p :: r => congrArg (p.1 :: ·) (odds_flat p.2 r)
theorem evens_flat : ∀ (a : Str) (ps : List (Str × Str)), evens (flat a ps) = a :: ps.map (·.2)
  | _, [] => rfl
  | a, p :: r => congrArg (a :: ·) (evens_flat p.2 r)
theorem flat_len : ∀ (a : Str) (ps : List (Str × Str)), (flat a ps).length = 2 * ps.length + 1
  | _, [] => rfl
  | a, p :: r => by
    show (flat p.2 r).length + 1 + 1 = 2 * (r.length + 1) + 1
    rw [flat_len p.2 r]
    omega
theorem flat_last : ∀ (a : Str) (ps : List (Str × Str)), (flat a ps).getLast? = (a :: ps.map (·.2)).getLast?
  | _, [] => rfl
  | a, p :: r => by
    have h := flat_last p.2 r
    have e : ∀ (x y : Str) (l : List Str), (x :: y :: l).getLast? = (y :: l).getLast? := fun x y l => by simp [List.getLast?_cons_cons]
    show (a :: p.1 :: flat p.2 r).getLast? = (a :: p.2 :: r.map (·.2)).getLast?
    rw [e, e, ← h]
    cases r with
    | nil => rfl
    | cons q r => rfl
theorem flat_snoc : ∀ (a : Str) (ps : List (Str × Str)) (p : Str × Str), flat a (ps ++ [p]) = flat a ps ++ [p.1, p.2]
  | _, [], _ => rfl
  | a, q :: r, p => by
    show a :: q.1 :: flat q.2 (r ++ [p]) = _
    rw [flat_snoc q.2 r p]
    rfl
theorem chain_at {m : Wk} : ∀ {a : Str} {ps : List (Str × Str)} {j : Nat}, Chain m a ps → j < ps.length → ∃ l x y, (flat a ps)[2 * j]? = some x ∧ (flat a ps)[2 * j + 1]? = some l ∧ (flat a ps)[2 * j + 2]? = some y ∧ Step m l x y
  | _, [], _, _, h => absurd h (Nat.not_lt_zero _)
  | a, p :: r, 0, h, _ => ⟨p.1, a, p.2, rfl, rfl, by cases r <;> rfl, h.1⟩
  | a, p :: r, j + 1, h, hj => chain_at (a := p.2) (ps := r) (j := j) h.2 (Nat.lt_of_succ_lt_succ hj)
theorem chain_app {m : Wk} : ∀ {a : Str} {ps qs : List (Str × Str)}, Chain m a (ps ++ qs) ↔ Chain m a ps ∧ Chain m (((a :: ps.map (·.2)).getLast?).getD a) qs
  | a, [], qs => by
    show Chain m a qs ↔ True ∧ Chain m a qs
    exact ⟨fun h => ⟨trivial, h⟩, fun h => h.2⟩
  | a, p :: r, qs => by
    have e : (a :: (p :: r).map (·.2)).getLast?.getD a = (p.2 :: r.map (·.2)).getLast?.getD p.2 := by
      rw [List.map_cons, List.getLast?_cons_cons]
      cases h : (p.2 :: r.map (·.2)).getLast? with
      | none => simp at h
      | some u => rfl
    rw [e]
    show (Step m p.1 a p.2 ∧ Chain m p.2 (r ++ qs)) ↔ (Step m p.1 a p.2 ∧ Chain m p.2 r) ∧ _
    rw [chain_app (a := p.2) (ps := r) (qs := qs)]
    exact and_assoc.symm
theorem walk_len {m : Wk} {path : List Str} (h : Walk m path) : path.length % 2 = 1 := by
  obtain ⟨a, ps, rfl, _⟩ := h
  rw [flat_len]
  omega
/-! ### rows refer to rows ahead of them -/
theorem VRows.pre {rs : List Row} (h : VRows rs) : ∀ r ∈ rs, ∃ qs, VRow qs r ∧ ∀ q ∈ qs, q ∈ rs := by
  induction h with
  | nil => exact fun _ h => nomatch h
  | @snoc qs q _ v ih =>
    intro r hr
    rcases List.mem_append.mp hr with hr | hr
    · obtain ⟨ps, h1, h2⟩ := ih r hr
      exact ⟨ps, h1, fun x hx => List.mem_append_left _ (h2 x hx)⟩
    · rw [List.mem_singleton.mp hr]
      exact ⟨qs, v, fun x hx => List.mem_append_left _ hx⟩
theorem isPl_mem {rs : List Row} {n : Str} (h : isPl rs n = true) : n ∈ nms PK rs := by
  have h : kindOf rs n ∈ PK := of_decide_eq_true h
  have h0 : kindOf rs n ≠ "" := fun e => by
    rw [e] at h
    exact absurd h (by decide)
  obtain ⟨r, h1, h2, h3⟩ := kindOf_mem h0
  exact mem_nms.mpr ⟨r, h1, by rw [h3]; exact h, h2⟩
theorem nms_mono {rs qs : List Row} (h : ∀ r ∈ qs, r ∈ rs) {ks : List Str} {n : Str} (hn : n ∈ nms ks qs) : n ∈ nms ks rs := by
  obtain ⟨r, h1, h2, h3⟩ := mem_nms.mp hn
  exact mem_nms.mpr ⟨r, h r h1, h2, h3⟩
theorem joins_mem {rs : List Row} {a b : Str} (h : joinsB rs a b = true) : a ∈ nms PK rs ∧ b ∈ nms PK rs ∧ a ≠ b := by
  unfold joinsB at h
  rw [Bool.and_eq_true, Bool.and_eq_true] at h
  exact ⟨isPl_mem h.1, isPl_mem h.2.1, by simpa using h.2.2⟩
theorem ends_pl {rs : List Row} (h : VRows rs) {r : Row} (hr : r ∈ rs) {a b : Str} (e : r.ends = some (a, b)) : a ∈ nms PK rs ∧ b ∈ nms PK rs ∧ a ≠ b := by
  obtain ⟨qs, v, hq⟩ := h.pre r hr
  have m := v.meets
  have k : joinsB qs a b = true := by
    cases r with
    | pipe n x y => cases e; exact m
    | valve n x y p c => cases e; exact m.1
    | pump n x y p c => cases e; exact m.1
    | _ => cases e
  obtain ⟨k1, k2, k3⟩ := joins_mem k
  exact ⟨nms_mono hq k1, nms_mono hq k2, k3⟩
theorem one_row {rs : List Row} (h : VRows rs) {r q : Row} (hr : r ∈ rs) (hq : q ∈ rs) (e : r.name = q.name) : r = q := by
  have a := (rowAt_W h).mpr ⟨hr, e⟩
  have b := (rowAt_W h).mpr ⟨hq, rfl⟩
  rw [a] at b
  exact Option.some.inj b
theorem step_pl {rs : List Row} (h : VRows rs) {l a b : Str} (s : Step (mkW rs) l a b) : l ∈ nms LK rs ∧ a ∈ nms PK rs ∧ b ∈ nms PK rs ∧ ∃ r ∈ rs, r.name = l ∧ r.kind ∈ LK ∧ (r.ends = some (a, b) ∨ r.ends = some (b, a)) := by
  obtain ⟨hl, r, hr, he⟩ := s
  obtain ⟨h1, h2⟩ := (rowAt_W h).mp hr
  have hl : l ∈ nms LK rs := hl
  obtain ⟨q, q1, q2, q3⟩ := mem_nms.mp hl
  have e := one_row h h1 q1 (h2.trans q3.symm)
  subst e
  rcases he with he | he
  · obtain ⟨k1, k2, _⟩ := ends_pl h h1 he
    exact ⟨hl, k1, k2, r, h1, h2, q2, .inl he⟩
  · obtain ⟨k1, k2, _⟩ := ends_pl h h1 he
    exact ⟨hl, k2, k1, r, h1, h2, q2, .inr he⟩
theorem chain_mem {m : Wk} : ∀ {a : Str} {ps : List (Str × Str)}, Chain m a ps → ∀ q ∈ ps, ∃ x y, Step m q.1 x y ∧ x ∈ a :: ps.map (·.2) ∧ y ∈ a :: ps.map (·.2) ∧ y = q.2
  | a, [], _, q, hq => nomatch hq
  | a, p :: r, h, q, hq => by
    rcases List.mem_cons.mp hq with rfl | hq
    · exact ⟨a, q.2, h.1, List.mem_cons_self, List.mem_cons_of_mem _ List.mem_cons_self, rfl⟩
    · obtain ⟨x, y, h1, h2, h3, h4⟩ := chain_mem (a := p.2) (ps := r) h.2 q hq
      exact ⟨x, y, h1, List.mem_cons_of_mem _ h2, List.mem_cons_of_mem _ h3, h4⟩
theorem same_ends {m : Wk} {l a b x y : Str} (s : Step m l a b) (t : Step m l x y) : a = x ∨ a = y := by
  obtain ⟨_, r, h1, h2⟩ := s
  obtain ⟨_, q, h3, h4⟩ := t
  rw [h1] at h3
  cases h3
  rcases h2 with h2 | h2 <;> rcases h4 with h4 | h4 <;> rw [h2] at h4 <;> cases h4
  · exact .inl rfl
  · exact .inr rfl
  · exact .inr rfl
  · exact .inl rfl
theorem links_nodup {m : Wk} : ∀ {a : Str} {ps : List (Str × Str)}, Chain m a ps → (a :: ps.map (·.2)).Nodup → (ps.map (·.1)).Nodup
  | a, [], _, _ => List.nodup_nil
  | a, p :: r, h, n => by
    have n : (a :: p.2 :: r.map (·.2)).Nodup := n
    rw [List.nodup_cons] at n
    rw [List.map_cons, List.nodup_cons]
    refine ⟨fun z => ?_, links_nodup (a := p.2) h.2 n.2⟩
    obtain ⟨q, hq, e⟩ := List.mem_map.mp z
    obtain ⟨x, y, h1, h2, h3, _⟩ := chain_mem (a := p.2) h.2 q hq
    rw [e] at h1
    rcases same_ends h.1 h1 with rfl | rfl
    · exact n.1 h2
    · exact n.1 h3
theorem nodup_len {α : Type} [DecidableEq α] : ∀ {l m : List α}, l.Nodup → (∀ x ∈ l, x ∈ m) → l.length ≤ m.length
  | [], m, _, _ => Nat.zero_le _
  | x :: l, m, n, h => by
    rw [List.nodup_cons] at n
    have hx := h x List.mem_cons_self
    have := nodup_len (l := l) (m := m.erase x) n.2 fun y hy => (List.mem_erase_of_ne fun e => n.1 (by rw [← e]; exact hy)).mpr (h y (List.mem_cons_of_mem _ hy))
    rw [List.length_erase_of_mem hx] at this
    have := List.length_pos_of_mem hx
    rw [List.length_cons]
    omega
structure WalkX (rs : List Row) (path : List Str) (a : Str) (ps : List (Str × Str)) : Prop where
  e : path = flat a ps
  src : a ∈ nms FK rs
  ch : Chain (mkW rs) a ps
  nd : (a :: ps.map (·.2)).Nodup
  pl : ∀ x ∈ a :: ps.map (·.2), x ∈ nms PK rs
  lk : ∀ p ∈ ps, p.1 ∈ nms LK rs
  ln : (ps.map (·.1)).Nodup
  few : ps.length < 16
theorem feeder_pl {rs : List Row} {a : Str} (h : a ∈ nms FK rs) : a ∈ nms PK rs := by
  obtain ⟨r, h1, h2, h3⟩ := mem_nms.mp h
  refine mem_nms.mpr ⟨r, h1, ?_, h3⟩
  simp only [FK, PK, List.mem_cons, List.not_mem_nil, or_false] at h2 ⊢
  exact .inr h2
theorem walk_x {rs : List Row} (h : VRows rs) {path : List Str} (w : Walk (mkW rs) path) : ∃ a ps, WalkX rs path a ps := by
  obtain ⟨a, ps, e, h1, h2, h3⟩ := w
  have h1 : a ∈ nms FK rs := h1
  have pl : ∀ x ∈ a :: ps.map (·.2), x ∈ nms PK rs := by
    intro x hx
    rcases List.mem_cons.mp hx with rfl | hx
    · exact feeder_pl h1
    · obtain ⟨q, hq, rfl⟩ := List.mem_map.mp hx
      obtain ⟨x, y, s, _, _, e⟩ := chain_mem h2 q hq
      subst e
      exact (step_pl h s).2.2.1
  refine ⟨a, ps, e, h1, h2, h3, pl, fun p hp => ?_, links_nodup h2 h3, ?_⟩
  · obtain ⟨x, y, s, _⟩ := chain_mem h2 p hp
    exact (step_pl h s).1
  · have := nodup_len h3 pl
    rw [List.length_cons, List.length_map, cnt_nms] at this
    have := h.few.2.1
    omega
theorem walk_few {rs : List Row} (h : VRows rs) {path : List Str} (w : Walk (mkW rs) path) : path.length ≤ 31 ∧ 1 ≤ path.length := by
  obtain ⟨a, ps, x⟩ := walk_x h w
  have := x.few
  rw [x.e, flat_len]
  omega
/-- kinds of one name -/
theorem kind_one {rs : List Row} (h : VRows rs) {ks js : List Str} {n : Str} (h1 : n ∈ nms ks rs) (h2 : n ∈ nms js rs) : ∃ k, k ∈ ks ∧ k ∈ js := by
  obtain ⟨r, a1, a2, a3⟩ := mem_nms.mp h1
  obtain ⟨q, b1, b2, b3⟩ := mem_nms.mp h2
  have e := one_row h a1 b1 (a3.trans b3.symm)
  subst e
  exact ⟨_, a2, b2⟩
theorem flat_mem : ∀ (a : Str) (ps : List (Str × Str)) (x : Str), x ∈ flat a ps ↔ x ∈ a :: ps.map (·.2) ∨ x ∈ ps.map (·.1)
  | a, [], x => by simp [flat]
  | a, p :: r, x => by
    show x ∈ a :: p.1 :: flat p.2 r ↔ _
    rw [List.mem_cons, List.mem_cons, flat_mem p.2 r x]
    simp only [List.map_cons, List.mem_cons]
    constructor
    · rintro (h | h | (h | h) | h)
      · exact .inl (.inl h)
      · exact .inr (.inl h)
      · exact .inl (.inr (.inl h))
      · exact .inl (.inr (.inr h))
      · exact .inr (.inr h)
    · rintro ((h | h | h) | (h | h))
      · exact .inl h
      · exact .inr (.inr (.inl (.inl h)))
      · exact .inr (.inr (.inl (.inr h)))
      · exact .inr (.inl h)
      · exact .inr (.inr (.inr h))
theorem valve_mem {rs : List Row} (h : VRows rs) {path : List Str} (w : Walk (mkW rs) path) {v : Str} (hv : v ∈ nms ["valve"] rs) : v ∈ path ↔ v ∈ odds path := by
  obtain ⟨a, ps, x⟩ := walk_x h w
  rw [x.e, odds_flat, flat_mem]
  constructor
  · rintro (z | z)
    · obtain ⟨k, k1, k2⟩ := kind_one h hv (x.pl v z)
      rw [List.mem_singleton] at k1
      rw [k1] at k2
      exact absurd k2 (by decide)
    · exact z
  · exact .inr
/-! ### sums -/
theorem sum_nil' : ([] : List Int).sum = 0 := rfl
theorem sum_cons' (a : Int) (l : List Int) : (a :: l).sum = a + l.sum := List.sum_cons
theorem sum_le' {α : Type} {f g : α → Int} : ∀ {l : List α}, (∀ x ∈ l, f x ≤ g x) → (l.map f).sum ≤ (l.map g).sum
  | [], _ => Int.le_refl _
  | a :: l, h => by
    rw [List.map_cons, List.map_cons, sum_cons', sum_cons']
    have := h a List.mem_cons_self
    have := sum_le' (f := f) (g := g) (l := l) fun x hx => h x (List.mem_cons_of_mem _ hx)
    omega
theorem sum_add' {α : Type} {f g : α → Int} : ∀ {l : List α}, (l.map fun x => f x + g x).sum = (l.map f).sum + (l.map g).sum
  | [] => rfl
  | a :: l => by
    rw [List.map_cons, List.map_cons, List.map_cons, sum_cons', sum_cons', sum_cons', sum_add' (l := l)]
    omega
theorem sum_filter' {α : Type} {f : α → Int} (p : α → Bool) : ∀ {l : List α}, (∀ x ∈ l, 0 ≤ f x) → ((l.filter p).map f).sum ≤ (l.map f).sum
  | [], _ => Int.le_refl _
  | a :: l, h => by
    have h1 := h a List.mem_cons_self
    have h2 := sum_filter' (f := f) p (l := l) fun x hx => h x (List.mem_cons_of_mem _ hx)
    rw [List.filter_cons]
    split
    · rw [List.map_cons, List.map_cons, sum_cons', sum_cons']
      omega
    · rw [List.map_cons, sum_cons']
      omega
theorem load_cons (p : Tu Str × Int) (ps : Pairs) (v : Str) : load (p :: ps) v = (if v ∈ odds p.1.l then p.2 else 0) + load ps v := by
  unfold load
  rw [List.filter_cons]
  by_cases h : v ∈ odds p.1.l
  · rw [if_pos (by simpa using h), if_pos h, List.map_cons, sum_cons']
  · rw [if_neg (by simpa using h), if_neg h]
    omega
theorem load_swap (C : List Str) : ∀ ps : Pairs, (C.map (load ps)).sum = (ps.map fun p => p.2 * ((C.filter fun v => decide (v ∈ odds p.1.l)).length : Int)).sum
  | [] => by
    have : ∀ l : List Str, (l.map (load [])).sum = 0 := fun l => by
      induction l with
      | nil => rfl
      | cons a l ih => rw [List.map_cons, sum_cons', ih]; rfl
    exact this C
  | p :: ps => by
    rw [List.map_cons, sum_cons', ← load_swap C ps]
    have e : (C.map (load (p :: ps))) = C.map fun v => (if v ∈ odds p.1.l then p.2 else 0) + load ps v := List.map_congr_left fun v _ => load_cons p ps v
    rw [e, sum_add']
    congr 1
    clear e
    induction C with
    | nil => simp
    | cons a l ih =>
      rw [List.map_cons, sum_cons', ih, List.filter_cons]
      by_cases h : a ∈ odds p.1.l
      · rw [if_pos h, if_pos (by simpa using h), List.length_cons]
        rw [Int.natCast_add, Int.mul_add]
        omega
      · rw [if_neg h, if_neg (by simpa using h)]
        omega
theorem dual {rs : List Row} (h : VRows rs) {many : Int} {ps : Pairs} {cs : List Str} (hs : ∀ c ∈ cs, c ∈ nms ["valve"] rs) (hp : ∀ p ∈ ps, Walk (mkW rs) p.1.l ∧ 1 ≤ p.2 ∧ many ≤ vcnt p.1.l cs) : valueOf (mkW rs) many ps ≤ costOf (mkW rs) cs := by
  unfold valueOf costOf
  show many * (ps.map (·.2)).sum - ((nms ["valve"] rs).map fun v => max 0 (load ps v - costAt (mkW rs) v)).sum ≤ (((nms ["valve"] rs).filter fun v => decide (v ∈ cs)).map (costAt (mkW rs))).sum
  generalize hC : (nms ["valve"] rs).filter (fun v => decide (v ∈ cs)) = C
  have a1 : many * (ps.map (·.2)).sum ≤ (C.map (load ps)).sum := by
    rw [load_swap]
    have : many * (ps.map (·.2)).sum = (ps.map fun p => many * p.2).sum := by
      clear hp
      induction ps with
      | nil => simp
      | cons p ps ih => rw [List.map_cons, List.map_cons, sum_cons', sum_cons', Int.mul_add, ih]
    rw [this]
    refine sum_le' fun p hm => ?_
    obtain ⟨w, t, c⟩ := hp p hm
    obtain ⟨a, qs, x⟩ := walk_x h w
    have le : vcnt p.1.l cs ≤ (C.filter fun v => decide (v ∈ odds p.1.l)).length := by
      unfold vcnt
      refine nodup_len (List.Nodup.sublist List.filter_sublist (by rw [x.e, odds_flat]; exact x.ln)) fun y hy => ?_
      obtain ⟨y1, y2⟩ := List.mem_filter.mp hy
      have y2 : y ∈ cs := of_decide_eq_true y2
      rw [← hC]
      exact List.mem_filter.mpr ⟨List.mem_filter.mpr ⟨hs y y2, decide_eq_true y2⟩, decide_eq_true y1⟩
    have le2 : many ≤ ((C.filter fun v => decide (v ∈ odds p.1.l)).length : Int) := by omega
    have := Int.mul_le_mul_of_nonneg_left le2 (show 0 ≤ p.2 by omega)
    rw [Int.mul_comm many]
    exact this
  have a2 : (C.map (load ps)).sum ≤ (C.map fun v => costAt (mkW rs) v + max 0 (load ps v - costAt (mkW rs) v)).sum := sum_le' fun v _ => by omega
  rw [sum_add'] at a2
  have a3 : (C.map fun v => max 0 (load ps v - costAt (mkW rs) v)).sum ≤ ((nms ["valve"] rs).map fun v => max 0 (load ps v - costAt (mkW rs) v)).sum := by
    rw [← hC]
    exact sum_filter' (f := fun v => max 0 (load ps v - costAt (mkW rs) v)) _ fun v _ => by omega
  have e : (C.map (costAt (mkW rs))).sum = (C.map fun v => costAt (mkW rs) v).sum := rfl
  omega
/-! ### parted pairs -/
theorem load_by (ps : Pairs) (v : Str) : load ps v = sumBy (fun l => decide (v ∈ odds l)) ps := rfl
theorem sum_by (ps : Pairs) : (ps.map (·.2)).sum = sumBy (fun _ => true) ps := by
  unfold sumBy
  rw [List.filter_eq_self.mpr fun _ _ => rfl]
theorem value_parted {m : Wk} {many : Int} {ps qs : Pairs} (h : Parted ps qs) : valueOf m many qs = valueOf m many ps := by
  unfold valueOf
  rw [sum_by, sum_by, h]
  have : (fun v => max 0 (load qs v - costAt m v)) = fun v => max 0 (load ps v - costAt m v) := by
    funext v
    rw [load_by, load_by, h]
  rw [this]
theorem sumBy_cons (f : List Str → Bool) (p : Tu Str × Int) (ps : Pairs) : sumBy f (p :: ps) = (if f p.1.l then p.2 else 0) + sumBy f ps := by
  unfold sumBy
  rw [List.filter_cons]
  by_cases h : f p.1.l = true
  · rw [if_pos h, if_pos h, List.map_cons, sum_cons']
  · rw [if_neg h, if_neg h]
    omega
theorem sumBy_app (f : List Str → Bool) : ∀ ps qs : Pairs, sumBy f (ps ++ qs) = sumBy f ps + sumBy f qs
  | [], qs => by
    have : sumBy f [] = 0 := rfl
    rw [List.nil_append, this]
    omega
  | p :: ps, qs => by
    rw [List.cons_append, sumBy_cons, sumBy_cons, sumBy_app f ps qs]
    omega
theorem sumBy_rev (f : List Str → Bool) : ∀ ps : Pairs, sumBy f ps.reverse = sumBy f ps
  | [] => rfl
  | p :: ps => by
    rw [List.reverse_cons, sumBy_app, sumBy_rev f ps, sumBy_cons, sumBy_cons]
    have : sumBy f [] = 0 := rfl
    omega
/-! ### the law's distances -/
structure FarI (rs : List Row) (far : List (Key × Int)) : Prop where
  nd : (far.map (·.1)).Nodup
  pl : ∀ kv ∈ far, ∃ n ∈ nms PK rs, kv.1 = .inr n
  bd : ∀ kv ∈ far, 0 ≤ kv.2 ∧ kv.2 + 1 ≤ far.length
theorem valM_mem {α : Type} {d : List (Key × α)} {k : Key} {v : α} (h : valM d k = some v) : (k, v) ∈ d := by
  unfold valM at h
  cases q : d.find? fun kv => decide (kv.1 = k) with
  | none => rw [q] at h; cases h
  | some p =>
    rw [q] at h
    have h1 := List.mem_of_find?_eq_some q
    have h2 : p.1 = k := by simpa using List.find?_some q
    have h3 : p.2 = v := Option.some.inj h
    rw [← h2, ← h3]
    exact h1
theorem put_mem {α : Type} {d : List (Key × α)} {k : Key} {v : α} {p : Key × α} (h : p ∈ putM d k v) : p = (k, v) ∨ p ∈ d := by
  unfold putM at h
  split at h
  · obtain ⟨q, hq, e⟩ := List.mem_map.mp h
    split at e
    · rename_i z
      exact .inl (by rw [← e, ← z])
    · exact .inr (e ▸ hq)
  · rcases List.mem_append.mp h with h | h
    · exact .inr h
    · exact .inl (List.mem_singleton.mp h)
theorem put_keys {α : Type} (d : List (Key × α)) (k : Key) (v : α) : (k ∈ d.map (·.1) ∧ (putM d k v).map (·.1) = d.map (·.1) ∧ (putM d k v).length = d.length) ∨ (¬ k ∈ d.map (·.1) ∧ (putM d k v).map (·.1) = d.map (·.1) ++ [k] ∧ (putM d k v).length = d.length + 1) := by
  have e : (d.any fun kv => decide (kv.1 = k)) = true ↔ k ∈ d.map (·.1) := by
    rw [List.any_eq_true, List.mem_map]
    simp
  unfold putM
  by_cases h : k ∈ d.map (·.1)
  · rw [if_pos (e.mpr h)]
    refine .inl ⟨h, ?_, by rw [List.length_map]⟩
    rw [List.map_map]
    refine List.map_congr_left fun p _ => ?_
    show (if p.1 = k then (p.1, v) else p).1 = p.1
    split <;> rfl
  · rw [if_neg (fun z => h (e.mp z))]
    exact .inr ⟨h, by rw [List.map_append]; rfl, by rw [List.length_append]; rfl⟩
theorem FarI.put {rs : List Row} {far : List (Key × Int)} {b : Str} {w : Int} (h : FarI rs far) (hb : b ∈ nms PK rs) (h0 : 0 ≤ w) (h1 : w ≤ far.length) (h2 : ∀ y, valM far (.inr b) = some y → w ≤ y) : FarI rs (putM far (.inr b) w) := by
  rcases put_keys far (.inr b) w with ⟨z, ek, el⟩ | ⟨z, ek, el⟩
  · refine ⟨by rw [ek]; exact h.nd, fun kv hk => ?_, fun kv hk => ?_⟩
    · rcases put_mem hk with rfl | hk
      · exact ⟨b, hb, rfl⟩
      · exact h.pl kv hk
    · rw [el]
      rcases put_mem hk with rfl | hk
      · refine ⟨h0, ?_⟩
        dsimp only
        obtain ⟨p, hp, e⟩ := List.mem_map.mp z
        cases q : valM far (.inr b) with
        | none =>
          unfold valM at q
          cases q2 : far.find? fun kv => decide (kv.1 = (.inr b : Key)) with
          | none =>
            have := List.find?_eq_none.mp q2 p hp
            simp [e] at this
          | some u =>
            rw [q2] at q
            cases q
        | some y =>
          have a1 := h2 y q
          have a2 := (h.bd _ (valM_mem q)).2
          dsimp only at a2
          omega
      · exact h.bd kv hk
  · refine ⟨?_, fun kv hk => ?_, fun kv hk => ?_⟩
    · rw [ek, List.nodup_append]
      exact ⟨h.nd, by simp, fun x hx y hy e => z (by rw [List.mem_singleton] at hy; rw [← hy, ← e]; exact hx)⟩
    · rcases put_mem hk with rfl | hk
      · exact ⟨b, hb, rfl⟩
      · exact h.pl kv hk
    · rw [el]
      rcases put_mem hk with rfl | hk
      · exact ⟨h0, by dsimp only; omega⟩
      · have := h.bd kv hk
        omega
theorem FarI.few {rs : List Row} {far : List (Key × Int)} (h : FarI rs far) (v : VRows rs) : far.length ≤ 16 := by
  have := nodup_len (l := far.map (·.1)) (m := (nms PK rs).map (Sum.inr : Str → Key)) h.nd fun x hx => by
    obtain ⟨p, hp, rfl⟩ := List.mem_map.mp hx
    obtain ⟨n, h1, h2⟩ := h.pl p hp
    exact List.mem_map.mpr ⟨n, h1, h2.symm⟩
  rw [List.length_map, List.length_map, cnt_nms] at this
  have := v.few.2.1
  omega
def fle (d e : List (Key × Int)) : Prop := ∀ k v, valM d k = some v → ∃ u, valM e k = some u ∧ u ≤ v
theorem fle.refl (d : List (Key × Int)) : fle d d := fun _ v h => ⟨v, h, Int.le_refl _⟩
theorem fle.trans {d e f : List (Key × Int)} (a : fle d e) (b : fle e f) : fle d f := fun k v h => by
  obtain ⟨u, h1, h2⟩ := a k v h
  obtain ⟨x, h3, h4⟩ := b k u h1
  exact ⟨x, h3, Int.le_trans h4 h2⟩
theorem fle.put {d : List (Key × Int)} {k : Key} {w : Int} (h : ∀ y, valM d k = some y → w ≤ y) : fle d (putM d k w) := fun k' v e => by
  rw [valM_put]
  by_cases z : k' = k
  · rw [if_pos z]
    exact ⟨w, rfl, h v (z ▸ e)⟩
  · rw [if_neg z]
    exact ⟨v, e, Int.le_refl _⟩
/-- what one relaxed way leaves -/
def Rlx (d e : List (Key × Int)) (a b : Str) (p : Int) : Prop := ∀ x, valM d (.inr a) = some x → ∃ u, valM e (.inr b) = some u ∧ u ≤ x + p
theorem Rlx.mono {d d' e e' : List (Key × Int)} {a b : Str} {p : Int} (h : Rlx d e a b p) (h1 : fle d' d) (h2 : fle e e') : Rlx d' e' a b p := fun x hx => by
  obtain ⟨y, a1, a2⟩ := h1 _ _ hx
  obtain ⟨u, b1, b2⟩ := h y a1
  obtain ⟨w, c1, c2⟩ := h2 _ _ b1
  exact ⟨w, c1, by omega⟩
theorem rlx_put {rs : List Row} {d : List (Key × Int)} {a b : Str} {p x : Int} (h : FarI rs d) (hb : b ∈ nms PK rs) (hp : 0 ≤ p ∧ p ≤ 1) (hx : valM d (.inr a) = some x) (hl : ∀ y, valM d (.inr b) = some y → x + p < y) :
    FarI rs (putM d (.inr b) (x + p)) ∧ fle d (putM d (.inr b) (x + p)) ∧ Rlx d (putM d (.inr b) (x + p)) a b p := by
  have hb0 := h.bd _ (valM_mem hx)
  dsimp only at hb0
  refine ⟨h.put hb (by omega) (by omega) fun y e => by have := hl y e; omega, fle.put fun y e => by have := hl y e; omega, fun z hz => ?_⟩
  rw [hx] at hz
  cases hz
  exact ⟨_, valM_put_same _ _ _, Int.le_refl _⟩
theorem rlx_stay {rs : List Row} {d : List (Key × Int)} {a b : Str} {p x : Int} (h : FarI rs d) (v : VRows rs) (hp : p ≤ 1) (hx : valM d (.inr a) = some x) (hl : ¬ x + p < (valM d (.inr b)).getD 99) : Rlx d d a b p := fun z hz => by
  rw [hx] at hz
  cases hz
  cases q : valM d (.inr b) with
  | none =>
    rw [q] at hl
    have b1 := (h.bd _ (valM_mem hx)).2
    have := h.few v
    dsimp only at b1
    simp only [Option.getD_none] at hl
    omega
  | some y =>
    rw [q] at hl
    simp only [Option.getD_some] at hl
    exact ⟨y, rfl, by omega⟩
/-- the cost of a chain -/
def ccost (cs : List Str) (ps : List (Str × Str)) : Nat := ((ps.map (·.1)).filter fun l => decide (l ∈ cs)).length
def lastP (a : Str) (ps : List (Str × Str)) : Str := match ps.getLast? with
  | some p => p.2
  | none => a
theorem ccost_snoc (cs : List Str) (ps : List (Str × Str)) (p : Str × Str) : ccost cs (ps ++ [p]) = ccost cs ps + if p.1 ∈ cs then 1 else 0 := by
  unfold ccost
  rw [List.map_append, List.filter_append, List.length_append]
  by_cases h : p.1 ∈ cs
  · simp [h]
  · simp [h]
/-- chains of at most n steps are met -/
def Met (rs : List Row) (cs : List Str) (n : Nat) (far : List (Key × Int)) : Prop := ∀ a ps, a ∈ nms FK rs → Chain (mkW rs) a ps → ps.length ≤ n → ∃ u, valM far (.inr (lastP a ps)) = some u ∧ u ≤ ccost cs ps
def AllR (rs : List Row) (cs : List Str) (d e : List (Key × Int)) : Prop := ∀ r ∈ rs, r.kind ∈ LK → ∀ a b, (r.ends = some (a, b) ∨ r.ends = some (b, a)) → Rlx d e a b (if r.name ∈ cs then 1 else 0)
theorem chain_end {m : Wk} {a : Str} {ps : List (Str × Str)} {p : Str × Str} (h : Chain m a (ps ++ [p])) : Chain m a ps ∧ Step m p.1 (lastP a ps) p.2 := by
  obtain ⟨h1, h2⟩ := chain_app.mp h
  refine ⟨h1, ?_⟩
  have e : ((a :: ps.map (·.2)).getLast?).getD a = lastP a ps := by
    unfold lastP
    cases ps with
    | nil => rfl
    | cons q r =>
      rw [List.map_cons, List.getLast?_cons_cons, ← List.map_cons (f := Prod.snd), List.getLast?_map]
      cases z : (q :: r).getLast? with
      | none => simp at z
      | some u => rfl
  rw [e] at h2
  exact h2.1
theorem snoc_cases {α : Type} : ∀ l : List α, l = [] ∨ ∃ r a, l = r ++ [a]
  | [] => .inl rfl
  | x :: l => by
    rcases snoc_cases l with rfl | ⟨r, a, rfl⟩
    · exact .inr ⟨[], x, rfl⟩
    · exact .inr ⟨x :: r, a, rfl⟩
theorem met_step {rs : List Row} {cs : List Str} (v : VRows rs) {n : Nat} {d e : List (Key × Int)} (h : Met rs cs n d) (f : fle d e) (r : AllR rs cs d e) : Met rs cs (n + 1) e := by
  intro a ps ha hc hn
  rcases snoc_cases ps with rfl | ⟨qs, p, rfl⟩
  · obtain ⟨u, h1, h2⟩ := h a [] ha trivial (Nat.zero_le _)
    obtain ⟨x, h3, h4⟩ := f _ _ h1
    exact ⟨x, h3, by omega⟩
  · obtain ⟨c1, c2⟩ := chain_end hc
    rw [List.length_append] at hn
    obtain ⟨u, h1, h2⟩ := h a qs ha c1 (by simpa using hn)
    obtain ⟨_, _, _, row, r1, r2, r3, r4⟩ := step_pl v c2
    obtain ⟨x, h3, h4⟩ := r row r1 r3 _ _ r4 u h1
    have e : lastP a (qs ++ [p]) = p.2 := by
      unfold lastP
      rw [List.getLast?_append]
      rfl
    refine ⟨x, by rw [e]; exact h3, ?_⟩
    rw [ccost_snoc, r2] at *
    split at h4 <;> rename_i z <;> simp only [z, if_true, if_false] <;> omega
theorem met_fix {rs : List Row} {cs : List Str} (v : VRows rs) {d : List (Key × Int)} (h : Met rs cs 0 d) (r : AllR rs cs d d) : ∀ n, Met rs cs n d
  | 0 => h
  | n + 1 => met_step v (met_fix v h r n) (fle.refl d) r
theorem met_far {rs : List Row} {cs : List Str} (v : VRows rs) {d : List (Key × Int)} (h : Met rs cs 16 d) (i : FarI rs d) : FarOk rs cs d := by
  refine ⟨fun k x hx => (i.bd _ (valM_mem hx)).1, fun path e w he => ?_⟩
  obtain ⟨a, ps, x⟩ := walk_x v w
  obtain ⟨u, h1, h2⟩ := h a ps x.src x.ch (by have := x.few; omega)
  have e1 : lastP a ps = e := by
    rw [x.e, flat_last] at he
    unfold lastP
    cases ps with
    | nil => exact Option.some.inj he
    | cons q r =>
      rw [List.map_cons, List.getLast?_cons_cons, ← List.map_cons (f := Prod.snd), List.getLast?_map] at he
      cases z : (q :: r).getLast? with
      | none => simp at z
      | some u =>
        rw [z] at he
        exact Option.some.inj he
  refine ⟨u, by rw [← e1]; exact h1, ?_⟩
  have : vcnt path cs = ccost cs ps := by
    unfold vcnt ccost
    rw [x.e, odds_flat]
  rw [this]
  exact h2
/-! ### names, new rows -/
theorem name_str {s : Str} (h : NameOk s) : PyData.strOk s = true := by
  unfold PyData.strOk
  rw [← Array.all_toList, List.all_eq_true]
  intro c hc
  rcases h.all c hc with ⟨_, h⟩ | ⟨_, h⟩ <;> exact decide_eq_true (by omega)
theorem VRows.name {rs : List Row} (h : VRows rs) {r : Row} (hr : r ∈ rs) : NameOk r.name := by
  obtain ⟨qs, v, _⟩ := h.pre r hr
  exact v.name
theorem nms_name {rs : List Row} (h : VRows rs) {ks : List Str} {n : Str} (hn : n ∈ nms ks rs) : NameOk n := by
  obtain ⟨r, h1, _, h3⟩ := mem_nms.mp hn
  rw [← h3]
  exact h.name h1
theorem nms_nd {rs : List Row} (h : VRows rs) (ks : List Str) : (nms ks rs).Nodup := List.Nodup.sublist (nms_sub rs ks) h.nodup
theorem kindOf_in {rs : List Row} (h : VRows rs) {r : Row} (hr : r ∈ rs) : kindOf rs r.name = r.kind := by
  have h0 : kindOf rs r.name ≠ "" := fun e => kindOf_new e r hr rfl
  obtain ⟨q, h1, h2, h3⟩ := kindOf_mem h0
  rw [one_row h hr h1 h2.symm, h3, h2]
theorem kindOf_nms {rs : List Row} (h : VRows rs) {ks : List Str} {n : Str} (hn : n ∈ nms ks rs) : kindOf rs n ∈ ks := by
  obtain ⟨r, h1, h2, rfl⟩ := mem_nms.mp hn
  rw [kindOf_in h h1]
  exact h2
theorem isPl_in {rs : List Row} (h : VRows rs) {n : Str} (hn : n ∈ nms PK rs) : isPl rs n = true := decide_eq_true (kindOf_nms h hn)
theorem nf {rs : List Row} {k : Str} (h1 : k ∈ PK → cnt rs PK < 16) (h2 : k ∈ LK → cnt rs LK < 24) (h3 : k = "valve" → cnt rs ["valve"] < 8) (h4 : k = "pump" → cnt rs ["pump"] < 4) (h5 : k = "tank" → cnt rs ["tank"] < 2) (h6 : k = "tap" → cnt rs ["tap"] < 8) (h7 : k = "meter" → cnt rs ["meter"] < 6) : NotFull rs k := by
  intro p hp hk
  simp only [MAXL, List.mem_cons, List.not_mem_nil, or_false] at hp
  rcases hp with rfl | rfl | rfl | rfl | rfl | rfl | rfl
  · have := h1 hk; dsimp only; omega
  · have := h2 hk; dsimp only; omega
  · have := h3 (List.mem_singleton.mp hk); dsimp only; omega
  · have := h4 (List.mem_singleton.mp hk); dsimp only; omega
  · have := h5 (List.mem_singleton.mp hk); dsimp only; omega
  · have := h6 (List.mem_singleton.mp hk); dsimp only; omega
  · have := h7 (List.mem_singleton.mp hk); dsimp only; omega
section
variable {rs : List Row} {n a b : Str} (v : VRows rs) (hn : NameOk n) (hw : kindOf rs n = "")
include hn hw
theorem v_node (h : cnt rs PK < 16) : VRow rs (.node n) := ⟨hn, fun _ h => (nomatch h), hw, nf (fun _ => h) (fun z => absurd z (by simp only [Row.kind]; decide)) (fun z => absurd z (by simp only [Row.kind]; decide)) (fun z => absurd z (by simp only [Row.kind]; decide)) (fun z => absurd z (by simp only [Row.kind]; decide)) (fun z => absurd z (by simp only [Row.kind]; decide)) (fun z => absurd z (by simp only [Row.kind]; decide)), trivial⟩
theorem v_source (h : cnt rs PK < 16) : VRow rs (.source n) := ⟨hn, fun _ h => (nomatch h), hw, nf (fun _ => h) (fun z => absurd z (by simp only [Row.kind]; decide)) (fun z => absurd z (by simp only [Row.kind]; decide)) (fun z => absurd z (by simp only [Row.kind]; decide)) (fun z => absurd z (by simp only [Row.kind]; decide)) (fun z => absurd z (by simp only [Row.kind]; decide)) (fun z => absurd z (by simp only [Row.kind]; decide)), trivial⟩
theorem v_tank {c l : Int} (h : cnt rs PK < 16) (h2 : cnt rs ["tank"] < 2) (hc : 1 ≤ c ∧ c ≤ 9) (hl : 0 ≤ l ∧ l ≤ c) : VRow rs (.tank n c l) := ⟨hn, fun _ h => (nomatch h), hw, nf (fun _ => h) (fun z => absurd z (by simp only [Row.kind]; decide)) (fun z => absurd z (by simp only [Row.kind]; decide)) (fun z => absurd z (by simp only [Row.kind]; decide)) (fun _ => h2) (fun z => absurd z (by simp only [Row.kind]; decide)) (fun z => absurd z (by simp only [Row.kind]; decide)), hc, hl⟩
include v
omit hn hw in
theorem joins_in (ha : a ∈ nms PK rs) (hb : b ∈ nms PK rs) (ne : a ≠ b) : joinsB rs a b = true := by
  unfold joinsB
  rw [isPl_in v ha, isPl_in v hb, decide_eq_false ne]
  rfl
omit hn hw in
theorem two_names (ha : a ∈ nms PK rs) (hb : b ∈ nms PK rs) : ∀ m ∈ [a, b], NameOk m := fun m hm => by
  simp only [List.mem_cons, List.not_mem_nil, or_false] at hm
  rcases hm with rfl | rfl
  · exact nms_name v ha
  · exact nms_name v hb
theorem v_pipe (h : cnt rs LK < 24) (ha : a ∈ nms PK rs) (hb : b ∈ nms PK rs) (ne : a ≠ b) : VRow rs (.pipe n a b) := ⟨hn, two_names v ha hb, hw, nf (fun z => absurd z (by simp only [Row.kind]; decide)) (fun _ => h) (fun z => absurd z (by simp only [Row.kind]; decide)) (fun z => absurd z (by simp only [Row.kind]; decide)) (fun z => absurd z (by simp only [Row.kind]; decide)) (fun z => absurd z (by simp only [Row.kind]; decide)) (fun z => absurd z (by simp only [Row.kind]; decide)), joins_in v ha hb ne⟩
theorem v_valve {p : Str} {c : Int} (h : cnt rs LK < 24) (h2 : cnt rs ["valve"] < 8) (ha : a ∈ nms PK rs) (hb : b ∈ nms PK rs) (ne : a ≠ b) (hp : p = "open" ∨ p = "shut") (hc : 1 ≤ c ∧ c ≤ 99) : VRow rs (.valve n a b p c) := ⟨hn, two_names v ha hb, hw, nf (fun z => absurd z (by simp only [Row.kind]; decide)) (fun _ => h) (fun _ => h2) (fun z => absurd z (by simp only [Row.kind]; decide)) (fun z => absurd z (by simp only [Row.kind]; decide)) (fun z => absurd z (by simp only [Row.kind]; decide)) (fun z => absurd z (by simp only [Row.kind]; decide)), joins_in v ha hb ne, hp, hc⟩
theorem v_pump {r : Int} {s : Str} (h : cnt rs ["pump"] < 4) (ha : a ∈ nms PK rs) (hb : b ∈ nms ["tank"] rs) (ne : a ≠ b) (hr : 1 ≤ r ∧ r ≤ 9) (hs : s = "on" ∨ s = "off") : VRow rs (.pump n a b r s) := by
  have hk := kindOf_nms v hb
  have hb' : b ∈ nms PK rs := by
    obtain ⟨q, q1, q2, q3⟩ := mem_nms.mp hb
    exact mem_nms.mpr ⟨q, q1, by rw [List.mem_singleton.mp q2]; decide, q3⟩
  exact ⟨hn, two_names v ha hb', hw, nf (fun z => absurd z (by simp only [Row.kind]; decide)) (fun z => absurd z (by simp only [Row.kind]; decide)) (fun z => absurd z (by simp only [Row.kind]; decide)) (fun _ => h) (fun z => absurd z (by simp only [Row.kind]; decide)) (fun z => absurd z (by simp only [Row.kind]; decide)) (fun z => absurd z (by simp only [Row.kind]; decide)), joins_in v ha hb' ne, List.mem_singleton.mp hk, hr, hs⟩
theorem v_tap {l g : Int} (h : cnt rs ["tap"] < 8) (ha : a ∈ nms PK rs) (h1 : 0 ≤ l ∧ l ≤ g) (h2 : g ≤ 9) : VRow rs (.tap n a l g) := ⟨hn, fun m hm => by rw [List.mem_singleton.mp hm]; exact nms_name v ha, hw, nf (fun z => absurd z (by simp only [Row.kind]; decide)) (fun z => absurd z (by simp only [Row.kind]; decide)) (fun z => absurd z (by simp only [Row.kind]; decide)) (fun z => absurd z (by simp only [Row.kind]; decide)) (fun z => absurd z (by simp only [Row.kind]; decide)) (fun _ => h) (fun z => absurd z (by simp only [Row.kind]; decide)), isPl_in v ha, h1, h2⟩
def metered (rs : List Row) (a : Str) : Bool := rs.any fun r => match r with
  | .meter _ b => decide (b = a)
  | _ => false
theorem v_meter (h : cnt rs ["meter"] < 6) (ha : a ∈ nms LK rs) (hm : metered rs a = false) : VRow rs (.meter n a) := ⟨hn, fun m hm => by rw [List.mem_singleton.mp hm]; exact nms_name v ha, hw, nf (fun z => absurd z (by simp only [Row.kind]; decide)) (fun z => absurd z (by simp only [Row.kind]; decide)) (fun z => absurd z (by simp only [Row.kind]; decide)) (fun z => absurd z (by simp only [Row.kind]; decide)) (fun z => absurd z (by simp only [Row.kind]; decide)) (fun z => absurd z (by simp only [Row.kind]; decide)) (fun _ => h), by
  show unm rs a = true
  unfold unm
  rw [decide_eq_true (kindOf_nms v ha)]
  show (true && !(metered rs a)) = true
  rw [hm]
  rfl⟩
end
/-! ### stepping through goals -/
theorem ex_at {α : Type} {xs : List α} {i : Int} {P : α → Prop} (h0 : 0 ≤ i) (h1 : i < xs.length) (k : ∀ m, m ∈ xs → xs[i.toNat]? = some m → P m) : ∃ m, atI xs i = some m ∧ P m := by
  obtain ⟨m, a, b, c⟩ := atI_in h0 h1
  exact ⟨m, a, k m b c⟩
theorem ex_some {α : Type} {o : Option α} {v : α} {P : α → Prop} (h : o = some v) (k : P v) : ∃ m, o = some m ∧ P m := ⟨v, h, k⟩
theorem ex_str {s : Str} {P : Str → Prop} (k : P s) : ∃ x, Itm.s s = Itm.s x ∧ P x := ⟨s, rfl, k⟩
theorem ex_int {s : Int} {P : Int → Prop} (k : P s) : ∃ x, Itm.i s = Itm.i x ∧ P x := ⟨s, rfl, k⟩
theorem if_dT {p : Prop} [Decidable p] {A B : Prop} (h : p) (k : A) : if decide p = true then A else B := by rw [if_pos (decide_eq_true h)]; exact k
theorem if_dF {p : Prop} [Decidable p] {A B : Prop} (h : ¬ p) (k : B) : if decide p = true then A else B := by rw [if_neg (fun z => h (of_decide_eq_true z))]; exact k
theorem if_dd {p : Prop} [Decidable p] {A B : Prop} (h1 : p → A) (h2 : ¬ p → B) : if decide p = true then A else B := by
  by_cases z : p
  · exact if_dT z (h1 z)
  · exact if_dF z (h2 z)
theorem if_nT {p : Prop} [Decidable p] {A B : Prop} (h : p) (k : B) : if (!decide p) = true then A else B := by rw [if_neg (by simpa using h)]; exact k
theorem if_nF {p : Prop} [Decidable p] {A B : Prop} (h : ¬ p) (k : A) : if (!decide p) = true then A else B := by rw [if_pos (by simpa using h)]; exact k
theorem if_nd {p : Prop} [Decidable p] {A B : Prop} (h1 : p → B) (h2 : ¬ p → A) : if (!decide p) = true then A else B := by
  by_cases z : p
  · exact if_nT z (h1 z)
  · exact if_nF z (h2 z)
theorem if_t {A B : Prop} (k : A) : if true = true then A else B := k
theorem if_f {A B : Prop} (k : B) : if false = true then A else B := k
theorem if_nt {A B : Prop} (k : B) : if (!true) = true then A else B := k
theorem if_nf {A B : Prop} (k : A) : if (!false) = true then A else B := k
theorem if_inT {l : List Str} {a : Str} {A B : Prop} (h : a ∈ l) (k : A) : if (l.any fun m => m == a) = true then A else B := by rw [any_mem, if_pos (decide_eq_true h)]; exact k
theorem if_inF {l : List Str} {a : Str} {A B : Prop} (h : ¬ a ∈ l) (k : B) : if (l.any fun m => m == a) = true then A else B := by rw [any_mem, if_neg (fun z => h (of_decide_eq_true z))]; exact k
theorem if_in {l : List Str} {a : Str} {A B : Prop} (h1 : a ∈ l → A) (h2 : ¬ a ∈ l → B) : if (l.any fun m => m == a) = true then A else B := by
  by_cases z : a ∈ l
  · exact if_inT z (h1 z)
  · exact if_inF z (h2 z)
theorem if_ninT {l : List Str} {a : Str} {A B : Prop} (h : a ∈ l) (k : B) : if (!l.any fun m => m == a) = true then A else B := by rw [any_mem, if_neg (by simpa using h)]; exact k
theorem if_ninF {l : List Str} {a : Str} {A B : Prop} (h : ¬ a ∈ l) (k : A) : if (!l.any fun m => m == a) = true then A else B := by rw [any_mem, if_pos (by simpa using h)]; exact k
theorem len_lit {n : Nat} (h : n ≤ 1000) : n ≤ sizeLine := by have := sz; omega
theorem mem_rangeI {lo : Int} {n : Nat} {x : Int} (h : x ∈ rangeI lo n) : lo ≤ x ∧ x < lo + n := by
  unfold rangeI at h
  obtain ⟨k, hk, rfl⟩ := List.mem_map.mp h
  have := List.mem_range.mp hk
  omega
theorem mem_rangeC {lo st : Int} {n : Nat} {x : Int} (h : x ∈ rangeC lo st n) : ∃ j : Nat, j < n ∧ x = lo + j * st := by
  unfold rangeC at h
  obtain ⟨k, hk, rfl⟩ := List.mem_map.mp h
  exact ⟨k, List.mem_range.mp hk, rfl⟩
theorem len_rangeI {lo : Int} {n : Nat} : (rangeI lo n).length = n := by simp [rangeI]
theorem mkW_rows (rs : List Row) : (mkW rs).rows = rs := rfl
theorem mkW_places (rs : List Row) : (mkW rs).places = nms PK rs := rfl
theorem mkW_links (rs : List Row) : (mkW rs).links = nms LK rs := rfl
theorem mkW_valves (rs : List Row) : (mkW rs).valves = nms ["valve"] rs := rfl
theorem VRows.at {l : List Row} (h : VRows l) : ∀ {a : List Row} {x : Row} {b : List Row}, l = a ++ x :: b → VRow a x := by
  induction h with
  | nil =>
    intro a x b e
    have := congrArg List.length e
    simp at this
  | @snoc rs r _ v ih =>
    intro a x b e
    rcases snoc_cases b with rfl | ⟨c, z, rfl⟩
    · obtain ⟨e1, e2⟩ := List.append_inj' e rfl
      cases e2
      rw [← e1]
      exact v
    · rw [← List.cons_append, ← List.append_assoc] at e
      obtain ⟨e1, _⟩ := List.append_inj' e rfl
      exact ih e1
theorem dcP_all {α β : Type} {Φt : α → Pt Bool} {Φk : α → Pt Str} {Φv : α → Pt β} {post : List (Key × β) → Prop} (k : α → Str) (g : α → β) : ∀ (xs : List α) (acc : List (Key × β)), (∀ x ∈ xs, ∀ (P : Bool → Prop) ep, P true → Φt x P ep) → (∀ x ∈ xs, ∀ (P : Str → Prop) ep, P (k x) → Φk x P ep) → (∀ x ∈ xs, ∀ (P : β → Prop) ep, P (g x) → Φv x P ep) → post (xs.foldl (fun d x => putM d (.inr (k x)) (g x)) acc) → dcP (KeyW.key rpS) Φt Φk Φv post xs acc
  | [], acc, _, _, _, h => h
  | x :: xs, acc, h1, h2, h3, h => by
    refine h1 x List.mem_cons_self _ _ ?_
    show if true = true then _ else _
    rw [if_pos rfl]
    refine h2 x List.mem_cons_self _ _ (h3 x List.mem_cons_self _ _ ?_)
    exact dcP_all k g xs _ (fun y hy => h1 y (List.mem_cons_of_mem _ hy)) (fun y hy => h2 y (List.mem_cons_of_mem _ hy)) (fun y hy => h3 y (List.mem_cons_of_mem _ hy)) h
theorem fits {i : Int} (h1 : -1000000 ≤ i) (h2 : i ≤ 1000000) : Builtin.Range.rangeFitsLong i = true := Bool.and_eq_true_iff.mpr ⟨decide_eq_true (by omega), decide_eq_true (by omega)⟩
theorem rgc_odd {n : Nat} (h : n ≤ 1000) : RgC 1 ((2 * n + 1 : Nat) : Int) 2 n := by
  have e : Builtin.Range.rangeSize 1 ((2 * n + 1 : Nat) : Int) 2 = n := by
    unfold Builtin.Range.rangeSize
    rw [if_pos (by decide)]
    split <;> omega
  refine ⟨by decide, by decide, ?_, e⟩
  unfold Builtin.Range.small
  rw [e, fits (by decide) (by decide), fits (by omega) (by omega), fits (i := 2) (by decide) (by decide), fits (i := (n : Int)) (by omega) (by omega), if_pos (by decide), fits (by omega) (by omega), Bool.or_true]
  rfl
/-! ### the forms -/
def Row.form : Row → X3f
  | .node _ => ⟨2, ⟨[]⟩, ⟨[]⟩⟩
  | .source _ => ⟨2, ⟨[]⟩, ⟨[]⟩⟩
  | .tank .. => ⟨4, ⟨[2, 3]⟩, ⟨[]⟩⟩
  | .pipe .. => ⟨4, ⟨[]⟩, ⟨[2, 3]⟩⟩
  | .valve .. => ⟨6, ⟨[5]⟩, ⟨[2, 3]⟩⟩
  | .pump .. => ⟨6, ⟨[4]⟩, ⟨[2, 3]⟩⟩
  | .tap .. => ⟨5, ⟨[3, 4]⟩, ⟨[2]⟩⟩
  | .meter .. => ⟨3, ⟨[]⟩, ⟨[2]⟩⟩
theorem form_at (r : Row) : (r.kind, r.form) ∈ formL := by cases r <;> simp [Row.kind, Row.form, formL]
theorem form_mem (r : Row) : (r.kind, oX3.enc r.form) ∈ formK := List.mem_map.mpr ⟨_, form_at r, rfl⟩
theorem form_len (r : Row) : (r.enc.l.length : Int) = r.form.x0 := by cases r <;> rfl
theorem form_ints (r : Row) : ∀ i ∈ r.form.x1.l, ∃ n : Int, atI r.enc.l i = some (.i n) := by cases r <;> simp [Row.form, Row.enc, atI, ixN]
theorem form_refs (r : Row) : ∀ i ∈ r.form.x2.l, ∃ s ∈ r.refs, atI r.enc.l i = some (.s s) := by cases r <;> simp [Row.form, Row.enc, Row.refs, atI, ixN]
theorem form_few (r : Row) : r.form.x1.l.length ≤ 2 ∧ r.form.x2.l.length ≤ 2 := by cases r <;> simp [Row.form]
/-! ### loops over ranges -/
theorem forR_ind {S β : Type} {Φb : Int → S → Pt (Out S S β)} {fin : S → Prop} {rt : β → Prop} {ep : Exn → Prop} {lo : Int} {n : Nat} (Inv : Nat → S → Prop) (hfin : ∀ s, Inv n s → fin s)
    (hstep : ∀ (k : Nat) s (next : S → Prop), k < n → (∀ s', Inv (k + 1) s' → next s') → Inv k s → Φb (lo + (k : Int)) s (fun
      | .nx s' => next s'
      | .ct s' => next s'
      | .bk s' => fin s'
      | .rt b => rt b) ep) : ∀ s, Inv 0 s → forP Φb fin rt ep (rangeI lo n) s := by
  intro s hs
  refine forP_ind (fun rest s => ∃ k, k ≤ n ∧ rest = (rangeI lo n).drop k ∧ Inv k s) (fun s hi => ?_) (fun x r s next hn hi => ?_) _ s ⟨0, Nat.zero_le _, rfl, hs⟩
  · obtain ⟨k, h1, h2, h3⟩ := hi
    have e := congrArg List.length h2
    rw [List.length_drop, len_rangeI, List.length_nil] at e
    obtain rfl : k = n := by omega
    exact hfin s h3
  · obtain ⟨k, h1, h2, h3⟩ := hi
    have e := congrArg List.length h2
    rw [List.length_drop, len_rangeI, List.length_cons] at e
    have hk : k < n := by omega
    have hk2 : k < (rangeI lo n).length := by rw [len_rangeI]; exact hk
    rw [List.drop_eq_getElem_cons hk2] at h2
    obtain ⟨e1, e2⟩ := List.cons.inj h2
    have ex : x = lo + (k : Int) := by
      rw [e1]
      simp [rangeI]
    rw [ex]
    exact hstep k s next hk (fun s' hs' => hn s' ⟨k + 1, hk, e2, hs'⟩) h3
/-! ### loads -/
theorem loads_at (ps : Pairs) (v : Str) : ∀ (vs : List Str) (d : List (Key × Int)), valM (vs.foldl (fun d v => putM d (.inr v) (load ps v)) d) (.inr v) = if v ∈ vs then some (load ps v) else valM d (.inr v)
  | [], d => by simp
  | u :: vs, d => by
    rw [List.foldl_cons, loads_at ps v vs]
    by_cases h : v ∈ vs
    · rw [if_pos h, if_pos (List.mem_cons_of_mem _ h)]
    · rw [if_neg h, valM_put]
      by_cases z : u = v
      · subst z
        rw [if_pos rfl, if_pos List.mem_cons_self]
      · rw [if_neg (fun e => z (Sum.inr.inj e).symm), if_neg (by simp [h, Ne.symm z])]
theorem loadsD_at {vs : List Str} {ps : Pairs} {v : Str} (h : v ∈ vs) : valM (loadsD vs ps) (.inr v) = some (load ps v) := by
  unfold loadsD
  rw [loads_at, if_pos h]
theorem few_valves {rs : List Row} (h : VRows rs) : (nms ["valve"] rs).length ≤ 8 := by
  rw [cnt_nms]
  exact h.few.2.2.2
/-! ### drawn names -/
theorem cps_app (a b : Str) : (a ++ b).cps.toList = a.cps.toList ++ b.cps.toList := Array.toList_append
theorem cps_one (c : Nat) : (⟨#[c]⟩ : Str).cps.toList = [c] := rfl
theorem stem_nil : StemOk "" := ⟨by decide, fun c hc => by rw [show (Str.ofString "").cps.toList = [] from rfl] at hc; cases hc⟩
theorem sz_list (s : Str) : s.cps.size = s.cps.toList.length := by simp
theorem alnA (c : Nat) : c ∈ (Str.ofString "abcdefghijklmnopqrstuvwxyz0123456789").cps.toList ↔ lowC c ∨ digC c := by
  have e : (Str.ofString "abcdefghijklmnopqrstuvwxyz0123456789").cps.toList = (List.range 26).map (· + 97) ++ (List.range 10).map (· + 48) := by decide +kernel
  rw [e, List.mem_append, List.mem_map, List.mem_map]
  unfold lowC digC
  constructor
  · rintro (⟨a, h, rfl⟩ | ⟨a, h, rfl⟩)
    · have := List.mem_range.mp h
      omega
    · have := List.mem_range.mp h
      omega
  · rintro (h | h)
    · exact .inl ⟨c - 97, List.mem_range.mpr (by omega), by omega⟩
    · exact .inr ⟨c - 48, List.mem_range.mpr (by omega), by omega⟩
theorem aln_get {k : Nat} {c : Nat} (hk : k < 26) (h : (Str.ofString "abcdefghijklmnopqrstuvwxyz0123456789").cps.toList[k]? = some c) : lowC c := by
  have e : (Str.ofString "abcdefghijklmnopqrstuvwxyz0123456789").cps.toList = (List.range 26).map (· + 97) ++ (List.range 10).map (· + 48) := by decide +kernel
  rw [e, List.getElem?_append_left (by simpa using hk)] at h
  simp [List.getElem?_range hk] at h
  unfold lowC
  omega
def nameB (s : Str) : Bool := decide (s.cps.size ≤ 12) && (match s.cps.toList with
  | c :: _ => decide (97 ≤ c) && decide (c ≤ 122)
  | [] => false) && (s.cps.toList.all fun c => (decide (97 ≤ c) && decide (c ≤ 122)) || (decide (48 ≤ c) && decide (c ≤ 57))) && !(decide (s = "if") || decide (s = "then") || decide (s = "else") || decide (s = "and"))
theorem nameB_ok {s : Str} (h : nameB s = true) : NameOk s := by
  unfold nameB at h
  simp only [Bool.and_eq_true, Bool.not_eq_true', Bool.or_eq_false_iff, decide_eq_true_eq, decide_eq_false_iff_not, List.all_eq_true, Bool.or_eq_true] at h
  obtain ⟨⟨⟨h1, h2⟩, h3⟩, h4⟩ := h
  refine ⟨h1, ?_, fun c hc => h3 c hc, fun b => ?_⟩
  · cases e : s.cps.toList with
    | nil =>
      rw [e] at h2
      cases h2
    | cons c r =>
      rw [e] at h2
      simp only [Bool.and_eq_true, decide_eq_true_eq] at h2
      exact ⟨c, r, rfl, h2⟩
  · rcases b with b | b | b | b
    · exact h4.1.1.1 b
    · exact h4.1.1.2 b
    · exact h4.1.2 b
    · exact h4.2 b
abbrev spare : List Str := (rangeI 0 (Int.toNat 70)).map fun k => ("x" : Str) ++ Str.ofString (toString k)
theorem spare_names : spare.all nameB = true := by decide +kernel
theorem spare_nd : spare.Nodup := by decide +kernel
theorem spare_len : spare.length = 70 := by decide +kernel
theorem spare_ok {taken : List Str} (h : taken.length ≤ 60) : ∃ n, atI (spare.filter fun s => !(taken.any fun m => m == s)) 0 = some n ∧ NameOk n ∧ ¬ n ∈ taken := by
  cases e : spare.filter fun s => !(taken.any fun m => m == s) with
  | nil =>
    exfalso
    have := nodup_len (l := spare) (m := taken) spare_nd fun x hx => by
      by_cases z : x ∈ taken
      · exact z
      · have : x ∈ spare.filter fun s => !(taken.any fun m => m == s) := List.mem_filter.mpr ⟨hx, by rw [any_mem, decide_eq_false z]; rfl⟩
        rw [e] at this
        cases this
    rw [spare_len] at this
    omega
  | cons n r =>
    have hn : n ∈ spare.filter fun s => !(taken.any fun m => m == s) := by rw [e]; exact List.mem_cons_self
    obtain ⟨h1, h2⟩ := List.mem_filter.mp hn
    rw [any_mem] at h2
    exact ⟨n, atI_nat (n :: r) 0, nameB_ok (List.all_eq_true.mp spare_names n h1), by simpa using h2⟩
theorem name_fin {taken : List Str} {post : Str → Prop} {SP : Prop} (sp : SP) {N : Str} (hN : ¬ barred N → NameOk N) (hp : ∀ n, NameOk n → ¬ n ∈ taken → post n) : if (taken.any fun m => m == N) = true then (if true = true then SP else post N) else (([("if" : Str), "then", "else", "and"].length ≤ sizeLine) ∧ if ([("if" : Str), "then", "else", "and"].any fun m => m == N) = true then SP else post N) := by
  refine if_in (fun _ => sp) fun h => ⟨len_lit (by show 4 ≤ 1000; decide), if_in (fun _ => sp) fun h2 => hp N (hN fun b => h2 ?_) h⟩
  simp only [List.mem_cons, List.not_mem_nil, or_false]
  exact b
theorem cut_lo {s : Str} {k : Nat} (h : k ≤ s.length) : (cutS s none (some (k : Int))).cps.toList = s.cps.toList.take k := by
  unfold cutS
  rw [HT.sIx_nat, HT.sIx_none, List.toList_toArray, List.drop_zero, Nat.sub_zero, Nat.min_eq_left h]
theorem cut_hi {s : Str} {k : Nat} (h : k ≤ s.length) : (cutS s (some (k : Int)) none).cps.toList = s.cps.toList.drop k := by
  unfold cutS
  rw [HT.sIx_nat, HT.sIx_none, List.toList_toArray, Nat.min_eq_left h]
  refine List.take_of_length_le ?_
  rw [List.length_drop, ← str_len]
  exact Nat.le_refl _
theorem stem_name {s : Str} (hs : StemOk s) {k : Nat} (h1 : 1 ≤ k) (h2 : k ≤ s.length) {a b : Nat} (ha : lowC a ∨ digC a) (hb : lowC b ∨ digC b) : ¬ barred (cutS s none (some (k : Int)) ++ ⟨#[a]⟩ ++ ⟨#[b]⟩ ++ cutS s (some (k : Int)) none) → NameOk (cutS s none (some (k : Int)) ++ ⟨#[a]⟩ ++ ⟨#[b]⟩ ++ cutS s (some (k : Int)) none) := by
  have e : (cutS s none (some (k : Int)) ++ ⟨#[a]⟩ ++ ⟨#[b]⟩ ++ cutS s (some (k : Int)) none).cps.toList = s.cps.toList.take k ++ [a] ++ [b] ++ s.cps.toList.drop k := by
    rw [cps_app, cps_app, cps_app, cut_lo h2, cut_hi h2]
  have h3 := hs.1
  rw [sz_list] at h3
  rw [str_len] at h2
  refine fun nb => ⟨?_, ?_, fun c hc => ?_, nb⟩
  · rw [sz_list, e]
    simp only [List.length_append, List.length_take, List.length_drop, List.length_singleton]
    omega
  · rw [e]
    cases q : s.cps.toList with
    | nil =>
      rw [q] at h2
      simp at h2
      omega
    | cons c r =>
      obtain ⟨j, rfl⟩ : ∃ j, k = j + 1 := ⟨k - 1, by omega⟩
      exact ⟨c, _, rfl, hs.2 c (by rw [q]; exact List.mem_cons_self)⟩
  · rw [e] at hc
    simp only [List.mem_append, List.mem_singleton] at hc
    rcases hc with ((hc | rfl) | rfl) | hc
    · exact .inl (hs.2 c (List.mem_of_mem_take hc))
    · exact ha
    · exact hb
    · exact .inl (hs.2 c (List.mem_of_mem_drop hc))
/-! ### cuts -/
theorem cutB {Φ : Pt Bool} {post : Bool → Prop} {ep : Exn → Prop} (P : Prop) [Decidable P] (h : Φ (fun k => k = decide P) ep) (hp : post (decide P)) : CutP Φ post ep := ⟨_, h, fun _ e => e ▸ hp⟩
theorem cutA {α : Type} {Φ : Pt α} {post : α → Prop} {ep : Exn → Prop} (h : Φ (fun _ => True) ep) (hp : ∀ k, post k) : CutP Φ post ep := ⟨_, h, fun k _ => hp k⟩
theorem cutJ {α : Type} {Φ : Pt α} {post : α → Prop} {ep : Exn → Prop} (J : α → Prop) (h : Φ J ep) (hp : ∀ k, J k → post k) : CutP Φ post ep := ⟨J, h, hp⟩
theorem ex_J {S L β : Type} {A : (Out S L β → Prop) → Prop} {B : Out S L β → Prop} (Q : S → Prop) (h1 : A (nxJ Q B)) (h2 : ∀ s, Q s → B (.nx s)) : ∃ J, A J ∧ ∀ o, J o → B o := ⟨_, h1, fun o => match o with
  | .nx s => h2 s
  | .rt _ => id
  | .bk _ => id
  | .ct _ => id⟩
theorem nx_in {S S' L β : Type} {Q : S → Prop} {B : Out S' L β → Prop} {s : S} (h : Q s) : nxJ Q B (.nx s) := h
theorem rt_in {S S' L β : Type} {Q : S → Prop} {B : Out S' L β → Prop} {b : β} (h : B (.rt b)) : nxJ Q B (.rt b) := h
theorem ct_in {S S' L β : Type} {Q : S → Prop} {B : Out S' L β → Prop} {b : L} (h : B (.ct b)) : nxJ Q B (.ct b) := h
theorem bk_in {S S' L β : Type} {Q : S → Prop} {B : Out S' L β → Prop} {b : L} (h : B (.bk b)) : nxJ Q B (.bk b) := h
theorem len3 {α : Type} {a b c : α} : [a, b, c].length ≤ sizeLine := len_lit (by show 3 ≤ 1000; decide)
theorem len2 {α : Type} {a b : α} : [a, b].length ≤ sizeLine := len_lit (by show 2 ≤ 1000; decide)
theorem len1 {α : Type} {a : α} : [a].length ≤ sizeLine := len_lit (by show 1 ≤ 1000; decide)
theorem len0 {α : Type} : ([] : List α).length ≤ sizeLine := len_lit (by show 0 ≤ 1000; decide)
theorem len4 {α : Type} {a b c d : α} : [a, b, c, d].length ≤ sizeLine := len_lit (by show 4 ≤ 1000; decide)
theorem len5 {α : Type} {a b c d e : α} : [a, b, c, d, e].length ≤ sizeLine := len_lit (by show 5 ≤ 1000; decide)
theorem len6 {α : Type} {a b c d e f : α} : [a, b, c, d, e, f].length ≤ sizeLine := len_lit (by show 6 ≤ 1000; decide)
/-! ### the law's walks -/
theorem first_idx {t : Str} : ∀ {l : List Str}, t ∈ l → ∃ j : Nat, l[j]? = some t ∧ ∀ m, m < j → l[m]? ≠ some t
  | a :: l, h => by
    by_cases z : a = t
    · exact ⟨0, by rw [z]; rfl, fun m hm => absurd hm (Nat.not_lt_zero _)⟩
    · rcases List.mem_cons.mp h with e | h
      · exact absurd e.symm z
      · obtain ⟨j, h1, h2⟩ := first_idx h
        refine ⟨j + 1, h1, fun m hm => ?_⟩
        cases m with
        | zero => exact fun e => z (Option.some.inj e)
        | succ m => exact h2 m (Nat.lt_of_succ_lt_succ hm)
theorem flat_take : ∀ (a : Str) (ps : List (Str × Str)) (i : Nat), (flat a ps).take (2 * i + 1) = flat a (ps.take i)
  | a, [], i => by
    rw [List.take_nil]
    show [a].take (2 * i + 1) = [a]
    exact List.take_of_length_le (by show 1 ≤ 2 * i + 1; omega)
  | a, p :: r, 0 => rfl
  | a, p :: r, i + 1 => by
    show a :: p.1 :: (flat p.2 r).take (2 * i + 1) = a :: p.1 :: flat p.2 (r.take i)
    rw [flat_take p.2 r i]
theorem walk_take {rs : List Row} {path : List Str} {a : Str} {ps : List (Str × Str)} (x : WalkX rs path a ps) (i : Nat) : Walk (mkW rs) (path.take (2 * i + 1)) := by
  refine ⟨a, ps.take i, by rw [x.e, flat_take], x.src, ?_, ?_⟩
  · have := x.ch
    rw [← List.take_append_drop i ps] at this
    exact (chain_app.mp this).1
  · refine x.nd.sublist (List.Sublist.cons₂ a ?_)
    exact List.Sublist.map _ (List.take_sublist i ps)
theorem walk_cut {rs : List Row} (v : VRows rs) {path : List Str} {a : Str} {ps : List (Str × Str)} (x : WalkX rs path a ps) {t : Str} {j : Nat} (ht : t ∈ nms PK rs) (hj : path[j]? = some t) : Walk (mkW rs) (path.take (j + 1)) := by
  have hj2 := hj
  rw [x.e] at hj
  by_cases z : j % 2 = 1
  · exfalso
    have e : j = 2 * (j / 2) + 1 := by omega
    have o := odds_get (flat a ps) (j / 2)
    rw [← e, hj, odds_flat] at o
    have := List.mem_of_getElem? o
    obtain ⟨p, hp, rfl⟩ := List.mem_map.mp this
    obtain ⟨k, k1, k2⟩ := kind_one v ht (x.lk p hp)
    simp only [PK, LK, List.mem_cons, List.not_mem_nil, or_false] at k1 k2
    rcases k1 with rfl | rfl | rfl <;> exact absurd k2 (by decide)
  · have e : j = 2 * (j / 2) := by omega
    rw [e]
    exact walk_take x _
theorem walk_last {rs : List Row} {path : List Str} {a : Str} {ps : List (Str × Str)} (x : WalkX rs path a ps) : path.getLast? = some (lastP a ps) := by
  rw [x.e, flat_last]
  unfold lastP
  cases ps with
  | nil => rfl
  | cons q r =>
    rw [List.map_cons, List.getLast?_cons_cons, ← List.map_cons (f := Prod.snd), List.getLast?_map]
    cases z : (q :: r).getLast? with
    | none => simp at z
    | some u => rfl
theorem walk_ext {rs : List Row} (v : VRows rs) {path : List Str} {a : Str} {ps : List (Str × Str)} (x : WalkX rs path a ps) {r : Row} {t : Str} (hr : r ∈ rs) (hk : r.kind ∈ LK) (he : r.ends = some (lastP a ps, t) ∨ r.ends = some (t, lastP a ps)) (ht : ¬ t ∈ path) : Walk (mkW rs) (path ++ [r.name, t]) := by
  refine ⟨a, ps ++ [(r.name, t)], by rw [flat_snoc, x.e], x.src, ?_, ?_⟩
  · refine chain_app.mpr ⟨x.ch, ?_⟩
    have e : ((a :: ps.map (·.2)).getLast?).getD a = lastP a ps := by
      have := walk_last x
      rw [x.e, flat_last] at this
      rw [this]
      rfl
    rw [e]
    exact ⟨⟨mem_nms.mpr ⟨r, hr, hk, rfl⟩, r, (rowAt_W v).mpr ⟨hr, rfl⟩, he⟩, trivial⟩
  · rw [List.map_append, ← List.cons_append, List.nodup_append]
    refine ⟨x.nd, by simp, fun u hu w hw e => ht ?_⟩
    rw [List.map_singleton, List.mem_singleton] at hw
    rw [x.e, flat_mem]
    left
    have hw : w = t := hw
    rw [← hw, ← e]
    exact hu
/-- rows at a place -/
def nearB (here : Str) (r : Row) : Bool := decide (r.kind ∈ LK) && (match r.ends with
  | some p => decide (here ∈ [p.1, p.2])
  | none => false)
def onB (path : List Str) (r : Row) : Bool := match r.ends with
  | some p => !(path.any fun m => m == p.1) || !(path.any fun m => m == p.2)
  | none => false
theorem link_ends {r : Row} (hk : r.kind ∈ LK) : ∃ a b, atI r.enc.l 2 = some (.s a) ∧ atI r.enc.l 3 = some (.s b) ∧ r.ends = some (a, b) := by
  cases r with
  | pipe n a b => exact ⟨a, b, rfl, rfl, rfl⟩
  | valve n a b p c => exact ⟨a, b, rfl, rfl, rfl⟩
  | _ => exact absurd hk (by simp only [Row.kind]; decide)
theorem cutL_to {α : Type} {l : List α} {j : Nat} (h : j < l.length) : cutL l none (some ((j : Int) + 1)) = l.take (j + 1) := by
  unfold cutL
  rw [HT.sIx_none, show ((j : Int) + 1) = ((j + 1 : Nat) : Int) by omega, HT.sIx_nat, Nat.min_eq_left h, List.drop_zero, Nat.sub_zero]
theorem kPK (r : Row) : r.kind ∈ PK → ¬ r.kind ∈ LK ∧ ¬ r.kind ∈ ([("tap" : Str)]) ∧ ¬ r.kind ∈ ([("pump" : Str)]) ∧ ¬ r.kind ∈ ([("meter" : Str)]) := by cases r <;> simp only [Row.kind] <;> decide
theorem kLK (r : Row) : r.kind ∈ LK → ¬ r.kind ∈ PK ∧ ¬ r.kind ∈ ([("tap" : Str)]) ∧ ¬ r.kind ∈ ([("pump" : Str)]) ∧ ¬ r.kind ∈ ([("meter" : Str)]) := by cases r <;> simp only [Row.kind] <;> decide
theorem kTap (r : Row) : r.kind ∈ ([("tap" : Str)]) → ¬ r.kind ∈ PK ∧ ¬ r.kind ∈ LK ∧ ¬ r.kind ∈ ([("pump" : Str)]) ∧ ¬ r.kind ∈ ([("meter" : Str)]) := by cases r <;> simp only [Row.kind] <;> decide
theorem kPump (r : Row) : r.kind ∈ ([("pump" : Str)]) → ¬ r.kind ∈ PK ∧ ¬ r.kind ∈ LK ∧ ¬ r.kind ∈ ([("tap" : Str)]) ∧ ¬ r.kind ∈ ([("meter" : Str)]) := by cases r <;> simp only [Row.kind] <;> decide
theorem kMeter (r : Row) : r.kind ∈ ([("meter" : Str)]) → ¬ r.kind ∈ PK ∧ ¬ r.kind ∈ LK ∧ ¬ r.kind ∈ ([("tap" : Str)]) ∧ ¬ r.kind ∈ ([("pump" : Str)]) := by cases r <;> simp only [Row.kind] <;> decide
theorem filter_flat (f : Str → Bool) : ∀ (a : Str) (ps : List (Str × Str)), ((flat a ps).filter f).length = ((a :: ps.map (·.2)).filter f).length + ((ps.map (·.1)).filter f).length
  | a, [] => rfl
  | a, p :: r => by
    show ((a :: p.1 :: flat p.2 r).filter f).length = ((a :: p.2 :: r.map (·.2)).filter f).length + ((p.1 :: r.map (·.1)).filter f).length
    have ih := filter_flat f p.2 r
    rw [List.filter_cons, List.filter_cons (x := p.1), List.filter_cons (x := a), List.filter_cons (x := p.1) (xs := r.map (·.1))]
    split <;> split <;> first | omega | (simp only [List.length_cons]; omega)
theorem valve_all {rs : List Row} (h : VRows rs) {path : List Str} (w : Walk (mkW rs) path) : (path.filter fun n => decide (n ∈ nms ["valve"] rs)).length = vcnt path (nms ["valve"] rs) := by
  obtain ⟨a, ps, x⟩ := walk_x h w
  unfold vcnt
  rw [x.e, odds_flat, filter_flat]
  have : (a :: ps.map (·.2)).filter (fun n => decide (n ∈ nms ["valve"] rs)) = [] := by
    rw [List.filter_eq_nil_iff]
    intro n hn z
    obtain ⟨k, k1, k2⟩ := kind_one h (of_decide_eq_true z) (x.pl n hn)
    rw [List.mem_singleton.mp k1] at k2
    exact absurd k2 (by decide)
  rw [this, List.length_nil, Nat.zero_add]
def Row.cost : Row → Int
  | .valve _ _ _ _ c => c
  | _ => 0
theorem due_eq {rs : List Row} (h : VRows rs) (cs : List Str) : ((rs.filter fun r => decide (r.kind = ("valve" : Str)) && decide (r.name ∈ cs)).map Row.cost).sum = costOf (mkW rs) cs := by
  unfold costOf
  rw [mkW_valves]
  unfold nms
  rw [List.filter_map, List.filter_filter, List.map_map]
  congr 1
  have e : rs.filter (fun r => decide (r.kind = ("valve" : Str)) && decide (r.name ∈ cs)) = rs.filter (fun r => ((fun v => decide (v ∈ cs)) ∘ Row.name) r && decide (r.kind ∈ ([("valve" : Str)]))) := List.filter_congr fun r _ => by
    show (decide (r.kind = ("valve" : Str)) && decide (r.name ∈ cs)) = (decide (r.name ∈ cs) && decide (r.kind ∈ ([("valve" : Str)])))
    simp only [List.mem_singleton]
    rw [Bool.and_comm]
  rw [e]
  refine List.map_congr_left fun r hr => ?_
  obtain ⟨h1, h2⟩ := List.mem_filter.mp hr
  rw [Bool.and_eq_true] at h2
  have hk := List.mem_singleton.mp (of_decide_eq_true h2.2)
  have er : rowAt (mkW rs) r.name = some r := (rowAt_W h).mpr ⟨h1, rfl⟩
  show r.cost = costAt (mkW rs) r.name
  unfold costAt
  rw [er]
  cases r with
  | valve n a b p c => rfl
  | _ => exact absurd hk (by simp only [Row.kind]; decide)
theorem row_ok {rs : List Row} (h : VRows rs) {r : Row} (hr : r ∈ rs) : ∀ i ∈ r.enc.l, Dat.ok rpU i := by
  obtain ⟨qs, v, _⟩ := h.pre r hr
  have hn := name_str v.name
  have hf : ∀ n ∈ r.refs, PyData.strOk n = true := fun n hn => name_str (v.refs n hn)
  have hm := v.meets
  have wd : ∀ s : Str, s = "node" ∨ s = "source" ∨ s = "tank" ∨ s = "pipe" ∨ s = "valve" ∨ s = "pump" ∨ s = "tap" ∨ s = "meter" ∨ s = "open" ∨ s = "shut" ∨ s = "on" ∨ s = "off" → PyData.strOk s = true := fun s hs => by
    rcases hs with rfl | rfl | rfl | rfl | rfl | rfl | rfl | rfl | rfl | rfl | rfl | rfl <;> decide +kernel
  intro i hi
  cases r <;> simp only [Row.enc, List.mem_cons, List.not_mem_nil, or_false] at hi
  case node n => rcases hi with rfl | rfl; exact wd _ (by simp); exact hn
  case source n => rcases hi with rfl | rfl; exact wd _ (by simp); exact hn
  case tank n c l => rcases hi with rfl | rfl | rfl | rfl; exact wd _ (by simp); exact hn; exact trivial; exact trivial
  case pipe n a b => rcases hi with rfl | rfl | rfl | rfl; exact wd _ (by simp); exact hn; exact hf a (by simp [Row.refs]); exact hf b (by simp [Row.refs])
  case valve n a b p c => rcases hi with rfl | rfl | rfl | rfl | rfl | rfl; exact wd _ (by simp); exact hn; exact hf a (by simp [Row.refs]); exact hf b (by simp [Row.refs]); (rcases hm.2.1 with e | e <;> exact wd _ (by rw [e]; simp)); exact trivial
  case pump n a b c p => rcases hi with rfl | rfl | rfl | rfl | rfl | rfl; exact wd _ (by simp); exact hn; exact hf a (by simp [Row.refs]); exact hf b (by simp [Row.refs]); exact trivial; (rcases hm.2.2.2 with e | e <;> exact wd _ (by rw [e]; simp))
  case tap n a l g => rcases hi with rfl | rfl | rfl | rfl | rfl; exact wd _ (by simp); exact hn; exact hf a (by simp [Row.refs]); exact trivial; exact trivial
  case meter n a => rcases hi with rfl | rfl | rfl; exact wd _ (by simp); exact hn; exact hf a (by simp [Row.refs])
end K17

set_option Elab.async false
set_option linter.all false
set_option maxRecDepth 100000
set_option maxHeartbeats 1000000
set_option autoImplicit false
namespace K17
open PySem PySem.Spec PyProof.Rows L2 Ty NdefX
section
variable {w : World} {K : Fg} {mg : Str → Option Value} {base : Heap}
theorem sc_is_integer : FnScope ["value"] ["value"] (defScope s_is_integer) := ⟨rfl, rfl, rfl, by decide +kernel, rfl, by decide +kernel, by decide +kernel⟩
theorem ok_is_integer (T : Txt w K mg) : Ok pw w K mg base "is_integer" (He.fAd K ("is_integer", none)) 1 ["value"] (spOf K rs0 (aCons rpI aNil) rpB (fun _ post _ => post true)) := by
  obtain ⟨fd, F⟩ := T.d_is_integer
  have nd := sc_is_integer.nd
  refine ⟨⟨fd, fn_ok F sc_is_integer (fun _ => rfl) (fun y cdv A outer s H G E hr => ⟨_, (b_ret (e_and (e_cb (isiw (cv := .ty "int") (u := .type "int") (b := true) tyI (.ty _) (L2.kit_ty (by decide +kernel))) T.f_isinstance (a_cons (e_var 0 rfl) (a_cons (e_clsB T.f_int) a_nil))) (e_one (e_not (e_cb (isiw (cv := .ty "bool") (u := .type "bool") (b := false) tyI (.ty _) (L2.kit_ty (by decide +kernel))) T.f_isinstance (a_cons (e_var 0 rfl) (a_cons (e_clsB T.f_bool) a_nil)))))))⟩) ?_, F.bindsN fun _ _ _ _ _ _ us hl => match us, hl with | [_], _ => rfl⟩, F.kp, T.g_is_integer⟩
  intro y post ep h
  dsimp only [endP, seqP, endI]
  exact h
theorem sc_is_within : FnScope ["value", "low", "high"] ["value", "low", "high"] (defScope s_is_within) := ⟨rfl, rfl, rfl, by decide +kernel, rfl, by decide +kernel, by decide +kernel⟩
theorem ok_is_within (T : Txt w K mg) : Ok pw w K mg base "is_within" (He.fAd K ("is_within", none)) 2 ["value", "low", "high"] (spOf K rs0 (aCons rpI (aCons rpI (aCons rpI aNil))) rpB (fun x post _ => post (decide (x.2.1 ≤ x.1 ∧ x.1 ≤ x.2.2.1)))) := by
  obtain ⟨fd_is_integer, F_is_integer, B_is_integer⟩ := (ok_is_integer (w := w) (base := base) T).ex
  have K_is_integer := (ok_is_integer (w := w) (base := base) T).kp
  have G_is_integer := (ok_is_integer (w := w) (base := base) T).gm
  obtain ⟨fd, F⟩ := T.d_is_within
  have nd := sc_is_within.nd
  refine ⟨⟨fd, fn_ok F sc_is_within (fun _ => rfl) (fun y cdv A outer s H G E hr => ⟨_, (b_ret (e_and (e_call F_is_integer (hr.mono (by decide)) G_is_integer K_is_integer B_is_integer (takes_of rfl rfl rfl rfl) (a_cons (e_var 0 rfl) a_nil)) (e_one (e_chain le_I le_I (e_var 1 rfl) (e_var 0 rfl) (e_var 2 rfl)))))⟩) ?_, F.bindsN fun _ _ _ _ _ _ us hl => match us, hl with | [_, _, _], _ => rfl⟩, F.kp, T.g_is_within⟩
  intro y post ep h
  dsimp only [endP, seqP, endI]
  by_cases a : y.2.1 ≤ y.1
  · rw [if_pos rfl, if_pos (decide_eq_true a)]
    simpa [a] using h
  · rw [if_pos rfl, if_neg (by simpa using a)]
    simpa [a] using h
theorem sc_is_string : FnScope ["value"] ["value"] (defScope s_is_string) := ⟨rfl, rfl, rfl, by decide +kernel, rfl, by decide +kernel, by decide +kernel⟩
theorem ok_is_string (T : Txt w K mg) : Ok pw w K mg base "is_string" (He.fAd K ("is_string", none)) 1 ["value"] (spOf K rs0 (aCons rpS aNil) rpB (fun _ post _ => post true)) := by
  obtain ⟨fd, F⟩ := T.d_is_string
  have nd := sc_is_string.nd
  refine ⟨⟨fd, fn_ok F sc_is_string (fun _ => rfl) (fun y cdv A outer s H G E hr => ⟨_, (b_ret (e_cb (isiw (cv := .ty "str") (u := .type "str") (b := true) tyS (.ty _) (L2.kit_ty (by decide +kernel))) T.f_isinstance (a_cons (e_var 0 rfl) (a_cons (e_clsB T.f_str) a_nil))))⟩) ?_, F.bindsN fun _ _ _ _ _ _ us hl => match us, hl with | [_], _ => rfl⟩, F.kp, T.g_is_string⟩
  intro y post ep h
  dsimp only [endP, seqP, endI]
  exact h
theorem sc_is_name : FnScope ["value", "sign"] ["value"] (defScope s_is_name) := ⟨rfl, rfl, rfl, by decide +kernel, rfl, by decide +kernel, by decide +kernel⟩
theorem ok_is_name (T : Txt w K mg) : Ok pw w K mg base "is_name" (He.fAd K ("is_name", none)) 1 ["value"] (spOf K rs0 (aCons rpS aNil) rpB (fun x post _ => NameOk x.1 ∧ post true)) := by
  obtain ⟨t_DIGITS, G_DIGITS⟩ := T.s_DIGITS
  obtain ⟨t_LETTERS, G_LETTERS⟩ := T.s_LETTERS
  obtain ⟨t_LONGEST_NAME, G_LONGEST_NAME⟩ := T.i_LONGEST_NAME
  obtain ⟨fd, F⟩ := T.d_is_name
  have nd := sc_is_name.nd
  refine ⟨⟨fd, fn_ok F sc_is_name (fun _ => rfl) (fun y cdv A outer s H G E hr => ⟨_, (b_if (mid := fun s1 : Unit => [.val rpS y.1, .no]) (t_pw (tw_or (t_not (t_val (e_cb (isiw (cv := .ty "str") (u := .type "str") (b := true) tyS (.ty _) (L2.kit_ty (by decide +kernel))) T.f_isinstance (a_cons (e_var 0 rfl) (a_cons (e_clsB T.f_str) a_nil))))) (tw_or1 (t_not (t_chain le_I le_I e_int (e_cb len_S T.f_len (a_cons (e_var 0 rfl) a_nil)) (e_glob (i := rpI) (m := (12 : Int)) (v := .int 12) G_LONGEST_NAME ⟨_, rfl⟩ (fun _ => rfl)))))))
 (b_ret e_bool)
 (b_nil () (.cons (.refl _) (.cons (.refl _) .nil)))
 (fun s1 => (b_if (mid := fun s2 : Unit => [.val rpS y.1, .no]) (t_pw (tw_or (t_cmp in_T (e_var 0 rfl) (e_gk (i := rpT (i := rpS)) (m := (⟨["if", "then", "else", "and"]⟩ : Tu Str)) T.g_BARRED_NAMES T.x_barred) rfl) (tw_or1 (t_cmp nin_Sg (e_ix ix_S (e_var 0 rfl) e_int) (e_glob (i := rpS) (m := ("abcdefghijklmnopqrstuvwxyz" : Str)) (v := .str "abcdefghijklmnopqrstuvwxyz") G_LETTERS ⟨_, rfl⟩ (fun _ => rfl)) rfl))))
 (b_ret e_bool)
 (b_nil () (.cons (.refl _) (.cons (.refl _) .nil)))
 (fun s2 => (b_ret (e_cb (all_L rfl) T.f_all (a_cons (e_lc rfl nd (blkOk_by (own := [("sign", 1)]) (by show blkC ["value", "sign"] (defScope s_is_name) _ _ = true; decide +kernel)) (by decide) rfl (i_str (e_var 0 rfl)) (fun _ _ _ _ _ => (g_name 1 nd)) (fun _ _ _ _ _ c3 => ts_nil) (fun _ _ _ _ _ c3 => (JE.conv (e_or (e_cmp in_Sg (e_var 1 rfl) (e_glob (i := rpS) (m := ("abcdefghijklmnopqrstuvwxyz" : Str)) (v := .str "abcdefghijklmnopqrstuvwxyz") G_LETTERS ⟨_, rfl⟩ (fun _ => rfl)) rfl) (e_one (e_cmp in_Sg (e_var 1 rfl) (e_glob (i := rpS) (m := ("0123456789" : Str)) (v := .str "0123456789") G_DIGITS ⟨_, rfl⟩ (fun _ => rfl)) rfl))) (by first | rfl | (dsimp only [Cx.blk] <;> rfl)) (by first | rfl | (dsimp only [Cx.blk] <;> rfl))))) a_nil)))))))⟩) ?_, F.bindsN fun _ _ _ _ _ _ us hl => match us, hl with | [_], _ => rfl⟩, F.kp, T.g_is_name⟩
  intro y post ep h
  dsimp only [endP, seqP, endI]
  obtain ⟨hn, hp⟩ := h
  obtain ⟨c, r, hc, lc⟩ := hn.head
  have l1 : y.1.length = y.1.cps.toList.length := str_len _
  have l2 : y.1.cps.size = y.1.cps.toList.length := by simp
  have l3 := hn.len
  have l4 : y.1.cps.toList.length = r.length + 1 := by rw [hc]; rfl
  have hz : sizeLine = 16777216 := sz
  rw [if_neg (by decide)]
  refine ⟨by omega, ?_⟩
  rw [if_pos (decide_eq_true (by omega)), if_neg (by simp only [Bool.not_eq_true', decide_eq_false_iff_not, Classical.not_not]; omega)]
  rw [if_neg (by
    rw [any_mem]
    intro z
    have z := of_decide_eq_true z
    simp only [List.mem_cons, List.not_mem_nil, or_false] at z
    exact hn.bar z)]
  refine ⟨by omega, c, by rw [hc]; exact atI_nat (c :: r) 0, c, rfl, ?_⟩
  rw [if_neg (by simp only [Bool.not_eq_true', decide_eq_false_iff_not, Classical.not_not]; exact (lowA c).mpr lc)]
  have ls : (Ty.signs y.1).length ≤ sizeLine := by
    unfold Ty.signs
    rw [List.length_map]
    omega
  refine ⟨ls, lcAll (fun _ => true) _ (fun _ _ _ _ p => p) (fun x hx P ep p => ?_) (by rw [all_true _ _ fun _ _ => rfl]; exact hp)⟩
  unfold Ty.signs at hx
  obtain ⟨k, hk, rfl⟩ := List.mem_map.mp hx
  refine ⟨k, rfl, ?_⟩
  rcases hn.all k hk with z | z
  · rw [if_pos (decide_eq_true ((lowA k).mpr z))]
    exact p
  · split
    · exact p
    · exact ⟨k, rfl, by rw [decide_eq_true ((digA k).mpr z)]; exact p⟩
theorem sc_is_tuple_of : FnScope ["value", "size"] ["value", "size"] (defScope s_is_tuple_of) := ⟨rfl, rfl, rfl, by decide +kernel, rfl, by decide +kernel, by decide +kernel⟩
theorem ok_is_tuple_of (T : Txt w K mg) : Ok pw w K mg base "is_tuple_of" (He.fAd K ("is_tuple_of", none)) 1 ["value", "size"] (spOf K rs0 (aCons (rpT (i := rpU)) (aCons rpI aNil)) rpB (fun x post _ => post (decide ((x.1.l.length : Int) = x.2.1)))) := by
  obtain ⟨fd, F⟩ := T.d_is_tuple_of
  have nd := sc_is_tuple_of.nd
  refine ⟨⟨fd, fn_ok F sc_is_tuple_of (fun _ => rfl) (fun y cdv A outer s H G E hr => ⟨_, (b_ret (e_and (e_cb (isiw (cv := .ty "tuple") (u := .type "tuple") (b := true) tyT (.ty _) (L2.kit_ty (by decide +kernel))) T.f_isinstance (a_cons (e_var 0 rfl) (a_cons (e_clsB T.f_tuple) a_nil))) (e_one (e_cmp eq_V (e_cb len_T T.f_len (a_cons (e_var 0 rfl) a_nil)) (e_var 1 rfl) (nomark _)))))⟩) ?_, F.bindsN fun _ _ _ _ _ _ us hl => match us, hl with | [_, _], _ => rfl⟩, F.kp, T.g_is_tuple_of⟩
  intro y post ep h
  dsimp only [endP, seqP, endI]
  exact fun _ => h
theorem sc_is_strings : FnScope ["value", "item"] ["value"] (defScope s_is_strings) := ⟨rfl, rfl, rfl, by decide +kernel, rfl, by decide +kernel, by decide +kernel⟩
theorem ok_is_strings (T : Txt w K mg) : Ok pw w K mg base "is_strings" (He.fAd K ("is_strings", none)) 1 ["value"] (spOf K rs0 (aCons (rpT (i := rpS)) aNil) rpB (fun x post _ => post true)) := by
  obtain ⟨fd, F⟩ := T.d_is_strings
  have nd := sc_is_strings.nd
  refine ⟨⟨fd, fn_ok F sc_is_strings (fun _ => rfl) (fun y cdv A outer s H G E hr => ⟨_, (b_ret (e_and (e_cb (isiw (cv := .ty "tuple") (u := .type "tuple") (b := true) tyT (.ty _) (L2.kit_ty (by decide +kernel))) T.f_isinstance (a_cons (e_var 0 rfl) (a_cons (e_clsB T.f_tuple) a_nil))) (e_one (e_cb (all_L rfl) T.f_all (a_cons (e_lc rfl nd (blkOk_by (own := [("item", 1)]) (by show blkC ["value", "item"] (defScope s_is_strings) _ _ = true; decide +kernel)) (by decide) rfl (i_tpl (e_var 0 rfl)) (fun _ _ _ _ _ => (g_name 1 nd)) (fun _ _ _ _ _ c1 => ts_nil) (fun _ _ _ _ _ c1 => (JE.conv (e_cb (isiw (cv := .ty "str") (u := .type "str") (b := true) tyS (.ty _) (L2.kit_ty (by decide +kernel))) T.f_isinstance (a_cons (e_var 1 rfl) (a_cons (e_clsB T.f_str) a_nil))) (by first | rfl | (dsimp only [Cx.blk] <;> rfl)) (by first | rfl | (dsimp only [Cx.blk] <;> rfl))))) a_nil)))))⟩) ?_, F.bindsN fun _ _ _ _ _ _ us hl => match us, hl with | [_], _ => rfl⟩, F.kp, T.g_is_strings⟩
  intro y post ep h
  dsimp only [endP, seqP, endI]
  exact fun hz => ⟨hz, lcAll (fun _ => true) _ (fun _ _ _ _ p => p) (fun _ _ _ _ p => p) (by rw [all_true _ _ fun _ _ => rfl]; exact h)⟩
theorem sc_kind_of : FnScope ["rows", "name", "row"] ["rows", "name"] (defScope s_kind_of) := ⟨rfl, rfl, rfl, by decide +kernel, rfl, by decide +kernel, by decide +kernel⟩
theorem ok_kind_of (T : Txt w K mg) : Ok pw w K mg base "kind_of" (He.fAd K ("kind_of", none)) 1 ["rows", "name"] (spOf K rs0 (aCons (rpL (i := rpRow)) (aCons rpS aNil)) rpS (fun x post _ => post (kindOf x.1 x.2.1))) := by
  obtain ⟨fd, F⟩ := T.d_kind_of
  have nd := sc_kind_of.nd
  refine ⟨⟨fd, fn_ok F sc_kind_of (fun _ => rfl) (fun y cdv A outer s H G E hr => ⟨_, (b_for (lpS := fun s1 : Unit => [.val (rpL (i := rpRow)) y.1, .val rpS y.2.1, .no]) () (.cons (.refl _) (.cons (.refl _) (.cons (.refl _) .nil))) (passes_of rfl) rfl (i_lst (e_var 0 rfl)) (g_name 2 nd)
 (fun x2 s1 => (b_ifE (t_cmp eq_V (e_dn dnS (e_ix ix_T (e_up upRow (e_var 2 rfl)) e_int)) (e_var 1 rfl) (nomark _))
 (b_ret (e_dn dnS (e_ix ix_T (e_up upRow (e_var 2 rfl)) e_int)))
 (b_nil () (.cons (.refl _) (.cons (.refl _) (.cons (.no _) .nil))))))
 (fun s1 => (b_ret e_str)))⟩) ?_, F.bindsN fun _ _ _ _ _ _ us hl => match us, hl with | [_, _], _ => rfl⟩, F.kp, T.g_kind_of⟩
  intro y post ep h
  dsimp only [endP, seqP, endI]
  intro _
  have key : ∀ rs : List Row, post (kindOf rs y.2.1) → forP (fun (x2 : Row) (s1 : Unit) (post : Out Unit Unit Str → Prop) (ep : Exn → Prop) => ∃ m, atI x2.enc.l 1 = some m ∧ ∃ x, m = Itm.s x ∧ if decide (x = y.2.1) = true then ∃ m, atI x2.enc.l 0 = some m ∧ ∃ x, m = Itm.s x ∧ post (Out.rt x) else post (Out.nx ())) (fun _ => post "") (fun b => post b) ep rs () := by
    intro rs
    induction rs with
    | nil => exact fun h => h
    | cons r rs ih =>
      intro h
      refine ⟨_, enc1 r, _, rfl, ?_⟩
      by_cases e : r.name = y.2.1
      · rw [if_pos (decide_eq_true e)]
        rw [kindOf_hit e] at h
        exact ⟨_, enc0 r, _, rfl, h⟩
      · rw [if_neg (by simpa using e)]
        rw [kindOf_miss e] at h
        exact ih h
  exact key y.1 h
theorem sc_is_place : FnScope ["rows", "name"] ["rows", "name"] (defScope s_is_place) := ⟨rfl, rfl, rfl, by decide +kernel, rfl, by decide +kernel, by decide +kernel⟩
theorem ok_is_place (T : Txt w K mg) : Ok pw w K mg base "_is_place" (He.fAd K ("_is_place", none)) 2 ["rows", "name"] (spOf K rs0 (aCons (rpL (i := rpRow)) (aCons rpS aNil)) rpB (fun x post _ => post (isPl x.1 x.2.1))) := by
  obtain ⟨fd_kind_of, F_kind_of, B_kind_of⟩ := (ok_kind_of (w := w) (base := base) T).ex
  have K_kind_of := (ok_kind_of (w := w) (base := base) T).kp
  have G_kind_of := (ok_kind_of (w := w) (base := base) T).gm
  obtain ⟨fd, F⟩ := T.d_is_place
  have nd := sc_is_place.nd
  refine ⟨⟨fd, fn_ok F sc_is_place (fun _ => rfl) (fun y cdv A outer s H G E hr => ⟨_, (b_ret (e_cmp in_T (e_call F_kind_of (hr.mono (by decide)) G_kind_of K_kind_of B_kind_of (takes_of rfl rfl rfl rfl) (a_cons (e_var 0 rfl) (a_cons (e_var 1 rfl) a_nil))) (e_gk (i := rpT (i := rpS)) (m := (⟨["node", "source", "tank"]⟩ : Tu Str)) T.g_PLACE_KINDS T.x_pk) rfl))⟩) ?_, F.bindsN fun _ _ _ _ _ _ us hl => match us, hl with | [_, _], _ => rfl⟩, F.kp, T.g_is_place⟩
  intro y post ep h
  dsimp only [endP, seqP, endI]
  rw [any_mem]
  exact h
theorem sc_joins_places : FnScope ["rows", "first", "second"] ["rows", "first", "second"] (defScope s_joins_places) := ⟨rfl, rfl, rfl, by decide +kernel, rfl, by decide +kernel, by decide +kernel⟩
theorem ok_joins_places (T : Txt w K mg) : Ok pw w K mg base "_joins_places" (He.fAd K ("_joins_places", none)) 3 ["rows", "first", "second"] (spOf K rs0 (aCons (rpL (i := rpRow)) (aCons rpS (aCons rpS aNil))) rpB (fun x post _ => post (joinsB x.1 x.2.1 x.2.2.1))) := by
  obtain ⟨fd_is_place, F_is_place, B_is_place⟩ := (ok_is_place (w := w) (base := base) T).ex
  have K_is_place := (ok_is_place (w := w) (base := base) T).kp
  have G_is_place := (ok_is_place (w := w) (base := base) T).gm
  obtain ⟨fd, F⟩ := T.d_joins_places
  have nd := sc_joins_places.nd
  refine ⟨⟨fd, fn_ok F sc_joins_places (fun _ => rfl) (fun y cdv A outer s H G E hr => ⟨_, (b_ret (e_and (e_call F_is_place (hr.mono (by decide)) G_is_place K_is_place B_is_place (takes_of rfl rfl rfl rfl) (a_cons (e_var 0 rfl) (a_cons (e_var 1 rfl) a_nil))) (e_and (e_call F_is_place (hr.mono (by decide)) G_is_place K_is_place B_is_place (takes_of rfl rfl rfl rfl) (a_cons (e_var 0 rfl) (a_cons (e_var 2 rfl) a_nil))) (e_one (e_cmp ne_V (e_var 1 rfl) (e_var 2 rfl) (nomark _))))))⟩) ?_, F.bindsN fun _ _ _ _ _ _ us hl => match us, hl with | [_, _, _], _ => rfl⟩, F.kp, T.g_joins_places⟩
  intro y post ep h
  dsimp only [endP, seqP, endI]
  unfold joinsB at h
  by_cases a : isPl y.1 y.2.1 = true
  · rw [if_pos a]
    by_cases b : isPl y.1 y.2.2.1 = true
    · rw [if_pos b]
      rw [a, b] at h
      exact h
    · rw [if_neg b]
      rw [a, Bool.eq_false_iff.mpr b] at h
      exact h
  · rw [if_neg a]
    rw [Bool.eq_false_iff.mpr a] at h
    exact h
theorem sc_is_valve_after : FnScope ["rows", "row", "position", "cost"] ["rows", "row"] (defScope s_is_valve_after) := ⟨rfl, rfl, rfl, by decide +kernel, rfl, by decide +kernel, by decide +kernel⟩
theorem ok_is_valve_after (T : Txt w K mg) : Ok pw w K mg base "_is_valve_after" (He.fAd K ("_is_valve_after", none)) 4 ["rows", "row"] (spOf K rs0 (aCons (rpL (i := rpRow)) (aCons rpRow aNil)) rpB (fun x post _ => (x.2.1.kind = "valve" ∧ Meets x.1 x.2.1) ∧ post true)) := by
  obtain ⟨fd_joins_places, F_joins_places, B_joins_places⟩ := (ok_joins_places (w := w) (base := base) T).ex
  have K_joins_places := (ok_joins_places (w := w) (base := base) T).kp
  have G_joins_places := (ok_joins_places (w := w) (base := base) T).gm
  obtain ⟨fd_is_within, F_is_within, B_is_within⟩ := (ok_is_within (w := w) (base := base) T).ex
  have K_is_within := (ok_is_within (w := w) (base := base) T).kp
  have G_is_within := (ok_is_within (w := w) (base := base) T).gm
  obtain ⟨fd, F⟩ := T.d_is_valve_after
  have nd := sc_is_valve_after.nd
  refine ⟨⟨fd, fn_ok F sc_is_valve_after (fun _ => rfl) (fun y cdv A outer s H G E hr => ⟨_, (b_par 2 3 nd (a_cons (e_dn dnS (e_ix ix_T (e_up upRow (e_var 1 rfl)) e_int)) (a_cons (e_dn dnI (e_ix ix_T (e_up upRow (e_var 1 rfl)) e_int)) a_nil))
 (fun position_1 cost_2 => (b_if (mid := fun s3 : Unit => [.val (rpL (i := rpRow)) y.1, .val rpRow y.2.1, .val rpS position_1, .val rpI cost_2]) (t_not (t_val (e_call F_joins_places (hr.mono (by decide)) G_joins_places K_joins_places B_joins_places (takes_of rfl rfl rfl rfl) (a_cons (e_var 0 rfl) (a_cons (e_dn dnS (e_ix ix_T (e_up upRow (e_var 1 rfl)) e_int)) (a_cons (e_dn dnS (e_ix ix_T (e_up upRow (e_var 1 rfl)) e_int)) a_nil))))))
 (b_ret e_bool)
 (b_nil () (.cons (.refl _) (.cons (.refl _) (.cons (.refl _) (.cons (.refl _) .nil)))))
 (fun s3 => (b_ret (e_and (e_cmp in_T (e_var 2 rfl) (e_tupT (a_cons e_str (a_cons e_str a_nil)) (.cons (.cons .nil))) rfl) (e_one (e_call F_is_within (hr.mono (by decide)) G_is_within K_is_within B_is_within (takes_of rfl rfl rfl rfl) (a_cons (e_var 3 rfl) (a_cons e_int (a_cons e_int a_nil)))))))))))⟩) ?_, F.bindsN fun _ _ _ _ _ _ us hl => match us, hl with | [_, _], _ => rfl⟩, F.kp, T.g_is_valve_after⟩
  intro y post ep h
  dsimp only [endP, seqP, endI]
  obtain ⟨⟨hk, hm⟩, hp⟩ := h
  obtain ⟨rs, r, u⟩ := y
  dsimp only at hk hm ⊢
  cases r with
  | valve n a b p c =>
    obtain ⟨m1, m2, m3⟩ := hm
    refine ⟨_, rfl, p, rfl, _, rfl, c, rfl, _, rfl, a, rfl, _, rfl, b, rfl, ?_⟩
    rw [m1, if_neg (by decide)]
    refine ⟨by decide, ?_⟩
    rw [any_mem, if_pos (decide_eq_true (by simpa using m2)), decide_eq_true m3]
    exact hp
  | _ => exact absurd hk (by simp only [Row.kind]; decide)
theorem sc_is_pump_after : FnScope ["rows", "row", "rate", "state"] ["rows", "row"] (defScope s_is_pump_after) := ⟨rfl, rfl, rfl, by decide +kernel, rfl, by decide +kernel, by decide +kernel⟩
theorem ok_is_pump_after (T : Txt w K mg) : Ok pw w K mg base "_is_pump_after" (He.fAd K ("_is_pump_after", none)) 4 ["rows", "row"] (spOf K rs0 (aCons (rpL (i := rpRow)) (aCons rpRow aNil)) rpB (fun x post _ => (x.2.1.kind = "pump" ∧ Meets x.1 x.2.1) ∧ post true)) := by
  obtain ⟨fd_joins_places, F_joins_places, B_joins_places⟩ := (ok_joins_places (w := w) (base := base) T).ex
  have K_joins_places := (ok_joins_places (w := w) (base := base) T).kp
  have G_joins_places := (ok_joins_places (w := w) (base := base) T).gm
  obtain ⟨fd_kind_of, F_kind_of, B_kind_of⟩ := (ok_kind_of (w := w) (base := base) T).ex
  have K_kind_of := (ok_kind_of (w := w) (base := base) T).kp
  have G_kind_of := (ok_kind_of (w := w) (base := base) T).gm
  obtain ⟨fd_is_within, F_is_within, B_is_within⟩ := (ok_is_within (w := w) (base := base) T).ex
  have K_is_within := (ok_is_within (w := w) (base := base) T).kp
  have G_is_within := (ok_is_within (w := w) (base := base) T).gm
  obtain ⟨fd, F⟩ := T.d_is_pump_after
  have nd := sc_is_pump_after.nd
  refine ⟨⟨fd, fn_ok F sc_is_pump_after (fun _ => rfl) (fun y cdv A outer s H G E hr => ⟨_, (b_par 2 3 nd (a_cons (e_dn dnI (e_ix ix_T (e_up upRow (e_var 1 rfl)) e_int)) (a_cons (e_dn dnS (e_ix ix_T (e_up upRow (e_var 1 rfl)) e_int)) a_nil))
 (fun rate_1 state_2 => (b_if (mid := fun s3 : Unit => [.val (rpL (i := rpRow)) y.1, .val rpRow y.2.1, .val rpI rate_1, .val rpS state_2]) (t_pw (tw_or (t_not (t_val (e_call F_joins_places (hr.mono (by decide)) G_joins_places K_joins_places B_joins_places (takes_of rfl rfl rfl rfl) (a_cons (e_var 0 rfl) (a_cons (e_dn dnS (e_ix ix_T (e_up upRow (e_var 1 rfl)) e_int)) (a_cons (e_dn dnS (e_ix ix_T (e_up upRow (e_var 1 rfl)) e_int)) a_nil)))))) (tw_or1 (t_cmp ne_V (e_call F_kind_of (hr.mono (by decide)) G_kind_of K_kind_of B_kind_of (takes_of rfl rfl rfl rfl) (a_cons (e_var 0 rfl) (a_cons (e_dn dnS (e_ix ix_T (e_up upRow (e_var 1 rfl)) e_int)) a_nil))) e_str (nomark _)))))
 (b_ret e_bool)
 (b_nil () (.cons (.refl _) (.cons (.refl _) (.cons (.refl _) (.cons (.refl _) .nil)))))
 (fun s3 => (b_ret (e_and (e_call F_is_within (hr.mono (by decide)) G_is_within K_is_within B_is_within (takes_of rfl rfl rfl rfl) (a_cons (e_var 2 rfl) (a_cons e_int (a_cons e_int a_nil)))) (e_one (e_cmp in_T (e_var 3 rfl) (e_tupT (a_cons e_str (a_cons e_str a_nil)) (.cons (.cons .nil))) rfl))))))))⟩) ?_, F.bindsN fun _ _ _ _ _ _ us hl => match us, hl with | [_, _], _ => rfl⟩, F.kp, T.g_is_pump_after⟩
  intro y post ep h
  dsimp only [endP, seqP, endI]
  obtain ⟨⟨hk, hm⟩, hp⟩ := h
  obtain ⟨rs, r, u⟩ := y
  dsimp only at hk hm ⊢
  cases r with
  | pump n a b p c =>
    obtain ⟨m1, m2, m3, m4⟩ := hm
    refine ⟨_, rfl, p, rfl, _, rfl, c, rfl, _, rfl, a, rfl, _, rfl, b, rfl, ?_⟩
    rw [m1, if_neg (by decide)]
    refine ⟨_, rfl, b, rfl, ?_⟩
    rw [if_neg (by rw [m2]; decide), if_pos (decide_eq_true m3), any_mem, decide_eq_true (show c ∈ ([("on" : Str), "off"]) by simpa using m4)]
    exact ⟨by show 2 ≤ sizeLine; decide, hp⟩
  | _ => exact absurd hk (by simp only [Row.kind]; decide)
theorem sc_is_unmetered : FnScope ["rows", "link", "row"] ["rows", "link"] (defScope s_is_unmetered) := ⟨rfl, rfl, rfl, by decide +kernel, rfl, by decide +kernel, by decide +kernel⟩
theorem ok_is_unmetered (T : Txt w K mg) : Ok pw w K mg base "_is_unmetered" (He.fAd K ("_is_unmetered", none)) 2 ["rows", "link"] (spOf K rs0 (aCons (rpL (i := rpRow)) (aCons rpS aNil)) rpB (fun x post _ => post (unm x.1 x.2.1))) := by
  obtain ⟨fd_kind_of, F_kind_of, B_kind_of⟩ := (ok_kind_of (w := w) (base := base) T).ex
  have K_kind_of := (ok_kind_of (w := w) (base := base) T).kp
  have G_kind_of := (ok_kind_of (w := w) (base := base) T).gm
  obtain ⟨fd, F⟩ := T.d_is_unmetered
  have nd := sc_is_unmetered.nd
  refine ⟨⟨fd, fn_ok F sc_is_unmetered (fun _ => rfl) (fun y cdv A outer s H G E hr => ⟨_, (b_if (mid := fun s1 : Unit => [.val (rpL (i := rpRow)) y.1, .val rpS y.2.1, .no]) (t_cmp nin_T (e_call F_kind_of (hr.mono (by decide)) G_kind_of K_kind_of B_kind_of (takes_of rfl rfl rfl rfl) (a_cons (e_var 0 rfl) (a_cons (e_var 1 rfl) a_nil))) (e_gk (i := rpT (i := rpS)) (m := (⟨["pipe", "valve"]⟩ : Tu Str)) T.g_LINK_KINDS T.x_lk) rfl)
 (b_ret e_bool)
 (b_nil () (.cons (.refl _) (.cons (.refl _) (.cons (.refl _) .nil))))
 (fun s1 => (b_ret (e_not (e_cb (any_L rfl) T.f_any (a_cons (e_lc rfl nd (blkOk_by (own := [("row", 2)]) (by show blkC ["rows", "link", "row"] (defScope s_is_unmetered) _ _ = true; decide +kernel)) (by decide) rfl (i_lst (e_var 0 rfl)) (fun _ _ _ _ _ => (g_name 2 nd)) (fun _ _ _ _ _ c2 => ts_nil) (fun _ _ _ _ _ c2 => (JE.conv (e_and (e_cmp eq_V (e_dn dnS (e_ix ix_T (e_up upRow (e_var 2 rfl)) e_int)) e_str (nomark _)) (e_one (e_cmp eq_V (e_dn dnS (e_ix ix_T (e_up upRow (e_var 2 rfl)) e_int)) (e_var 1 rfl) (nomark _)))) (by first | rfl | (dsimp only [Cx.blk] <;> rfl)) (by first | rfl | (dsimp only [Cx.blk] <;> rfl))))) a_nil))))))⟩) ?_, F.bindsN fun _ _ _ _ _ _ us hl => match us, hl with | [_, _], _ => rfl⟩, F.kp, T.g_is_unmetered⟩
  intro y post ep h
  dsimp only [endP, seqP, endI]
  rw [any_mem]
  unfold unm at h
  by_cases a : kindOf y.1 y.2.1 ∈ LK
  · rw [decide_eq_true a] at h ⊢
    rw [if_neg (by decide)]
    intro hz
    refine ⟨hz, lcAll (fun r => match r with | .meter _ b => decide (b = y.2.1) | _ => false) _ (fun _ _ _ _ p => p) (fun r hr P ep p => ?_) ?_⟩
    · refine ⟨_, enc0 r, _, rfl, ?_⟩
      cases r with
      | meter n b => exact if_dT rfl ⟨_, rfl, b, rfl, p⟩
      | _ => exact if_dF (by simp only [Row.kind]; decide) p
    · rw [List.any_map]
      exact h
  · rw [decide_eq_false a] at h ⊢
    rw [if_pos (by decide)]
    exact h
theorem sc_meets_conditions : FnScope ["rows", "row", "kind"] ["rows", "row"] (defScope s_meets_conditions) := ⟨rfl, rfl, rfl, by decide +kernel, rfl, by decide +kernel, by decide +kernel⟩
theorem ok_meets_conditions (T : Txt w K mg) : Ok pw w K mg base "_meets_conditions" (He.fAd K ("_meets_conditions", none)) 5 ["rows", "row"] (spOf K rs0 (aCons (rpL (i := rpRow)) (aCons rpRow aNil)) rpB (fun x post _ => Meets x.1 x.2.1 ∧ post true)) := by
  obtain ⟨fd_is_within, F_is_within, B_is_within⟩ := (ok_is_within (w := w) (base := base) T).ex
  have K_is_within := (ok_is_within (w := w) (base := base) T).kp
  have G_is_within := (ok_is_within (w := w) (base := base) T).gm
  obtain ⟨fd_joins_places, F_joins_places, B_joins_places⟩ := (ok_joins_places (w := w) (base := base) T).ex
  have K_joins_places := (ok_joins_places (w := w) (base := base) T).kp
  have G_joins_places := (ok_joins_places (w := w) (base := base) T).gm
  obtain ⟨fd_is_valve_after, F_is_valve_after, B_is_valve_after⟩ := (ok_is_valve_after (w := w) (base := base) T).ex
  have K_is_valve_after := (ok_is_valve_after (w := w) (base := base) T).kp
  have G_is_valve_after := (ok_is_valve_after (w := w) (base := base) T).gm
  obtain ⟨fd_is_pump_after, F_is_pump_after, B_is_pump_after⟩ := (ok_is_pump_after (w := w) (base := base) T).ex
  have K_is_pump_after := (ok_is_pump_after (w := w) (base := base) T).kp
  have G_is_pump_after := (ok_is_pump_after (w := w) (base := base) T).gm
  obtain ⟨fd_is_place, F_is_place, B_is_place⟩ := (ok_is_place (w := w) (base := base) T).ex
  have K_is_place := (ok_is_place (w := w) (base := base) T).kp
  have G_is_place := (ok_is_place (w := w) (base := base) T).gm
  obtain ⟨fd_is_unmetered, F_is_unmetered, B_is_unmetered⟩ := (ok_is_unmetered (w := w) (base := base) T).ex
  have K_is_unmetered := (ok_is_unmetered (w := w) (base := base) T).kp
  have G_is_unmetered := (ok_is_unmetered (w := w) (base := base) T).gm
  obtain ⟨fd, F⟩ := T.d_meets_conditions
  have nd := sc_meets_conditions.nd
  refine ⟨⟨fd, fn_ok F sc_meets_conditions (fun _ => rfl) (fun y cdv A outer s H G E hr => ⟨_, (b_set 2 nd (e_dn dnS (e_ix ix_T (e_up upRow (e_var 1 rfl)) e_int))
 (fun kind_1 => (b_if (mid := fun s2 : Unit => [.val (rpL (i := rpRow)) y.1, .val rpRow y.2.1, .val rpS kind_1]) (t_cmp eq_V (e_var 2 rfl) e_str (nomark _))
 (b_ret (e_and (e_call F_is_within (hr.mono (by decide)) G_is_within K_is_within B_is_within (takes_of rfl rfl rfl rfl) (a_cons (e_dn dnI (e_ix ix_T (e_up upRow (e_var 1 rfl)) e_int)) (a_cons e_int (a_cons e_int a_nil)))) (e_one (e_call F_is_within (hr.mono (by decide)) G_is_within K_is_within B_is_within (takes_of rfl rfl rfl rfl) (a_cons (e_dn dnI (e_ix ix_T (e_up upRow (e_var 1 rfl)) e_int)) (a_cons e_int (a_cons (e_dn dnI (e_ix ix_T (e_up upRow (e_var 1 rfl)) e_int)) a_nil)))))))
 (b_nil () (.cons (.refl _) (.cons (.refl _) (.cons (.refl _) .nil))))
 (fun s2 => (b_if (mid := fun s3 : Unit => [.val (rpL (i := rpRow)) y.1, .val rpRow y.2.1, .val rpS kind_1]) (t_cmp eq_V (e_var 2 rfl) e_str (nomark _))
 (b_ret (e_call F_joins_places (hr.mono (by decide)) G_joins_places K_joins_places B_joins_places (takes_of rfl rfl rfl rfl) (a_cons (e_var 0 rfl) (a_cons (e_dn dnS (e_ix ix_T (e_up upRow (e_var 1 rfl)) e_int)) (a_cons (e_dn dnS (e_ix ix_T (e_up upRow (e_var 1 rfl)) e_int)) a_nil)))))
 (b_nil () (.cons (.refl _) (.cons (.refl _) (.cons (.refl _) .nil))))
 (fun s3 => (b_if (mid := fun s4 : Unit => [.val (rpL (i := rpRow)) y.1, .val rpRow y.2.1, .val rpS kind_1]) (t_cmp eq_V (e_var 2 rfl) e_str (nomark _))
 (b_ret (e_call F_is_valve_after (hr.mono (by decide)) G_is_valve_after K_is_valve_after B_is_valve_after (takes_of rfl rfl rfl rfl) (a_cons (e_var 0 rfl) (a_cons (e_var 1 rfl) a_nil))))
 (b_nil () (.cons (.refl _) (.cons (.refl _) (.cons (.refl _) .nil))))
 (fun s4 => (b_if (mid := fun s5 : Unit => [.val (rpL (i := rpRow)) y.1, .val rpRow y.2.1, .val rpS kind_1]) (t_cmp eq_V (e_var 2 rfl) e_str (nomark _))
 (b_ret (e_call F_is_pump_after (hr.mono (by decide)) G_is_pump_after K_is_pump_after B_is_pump_after (takes_of rfl rfl rfl rfl) (a_cons (e_var 0 rfl) (a_cons (e_var 1 rfl) a_nil))))
 (b_nil () (.cons (.refl _) (.cons (.refl _) (.cons (.refl _) .nil))))
 (fun s5 => (b_if (mid := fun s6 : Unit => [.val (rpL (i := rpRow)) y.1, .val rpRow y.2.1, .val rpS kind_1]) (t_cmp eq_V (e_var 2 rfl) e_str (nomark _))
 (b_ret (e_and (e_call F_is_place (hr.mono (by decide)) G_is_place K_is_place B_is_place (takes_of rfl rfl rfl rfl) (a_cons (e_var 0 rfl) (a_cons (e_dn dnS (e_ix ix_T (e_up upRow (e_var 1 rfl)) e_int)) a_nil))) (e_and (e_call F_is_within (hr.mono (by decide)) G_is_within K_is_within B_is_within (takes_of rfl rfl rfl rfl) (a_cons (e_dn dnI (e_ix ix_T (e_up upRow (e_var 1 rfl)) e_int)) (a_cons e_int (a_cons (e_dn dnI (e_ix ix_T (e_up upRow (e_var 1 rfl)) e_int)) a_nil)))) (e_one (e_cmp le_I (e_dn dnI (e_ix ix_T (e_up upRow (e_var 1 rfl)) e_int)) e_int (nomark _))))))
 (b_nil () (.cons (.refl _) (.cons (.refl _) (.cons (.refl _) .nil))))
 (fun s6 => (b_if (mid := fun s7 : Unit => [.val (rpL (i := rpRow)) y.1, .val rpRow y.2.1, .val rpS kind_1]) (t_cmp eq_V (e_var 2 rfl) e_str (nomark _))
 (b_ret (e_call F_is_unmetered (hr.mono (by decide)) G_is_unmetered K_is_unmetered B_is_unmetered (takes_of rfl rfl rfl rfl) (a_cons (e_var 0 rfl) (a_cons (e_dn dnS (e_ix ix_T (e_up upRow (e_var 1 rfl)) e_int)) a_nil))))
 (b_nil () (.cons (.refl _) (.cons (.refl _) (.cons (.refl _) .nil))))
 (fun s7 => (b_ret e_bool)))))))))))))))⟩) ?_, F.bindsN fun _ _ _ _ _ _ us hl => match us, hl with | [_, _], _ => rfl⟩, F.kp, T.g_meets_conditions⟩
  intro y post ep h
  dsimp only [endP, seqP, endI]
  obtain ⟨hm, hp⟩ := h
  obtain ⟨rs, r, u⟩ := y
  dsimp only at hm ⊢
  refine ⟨_, enc0 r, _, rfl, ?_⟩
  cases r with
  | node n => exact hp
  | source n => exact hp
  | tank n c l =>
    refine if_dT rfl ?_
    refine ⟨_, rfl, c, rfl, ?_⟩
    rw [if_pos (decide_eq_true hm.1)]
    exact ⟨_, rfl, l, rfl, _, rfl, c, rfl, by rw [decide_eq_true hm.2]; exact hp⟩
  | pipe n a b =>
    refine if_dF (by simp only [Row.kind]; decide) (if_dT rfl ?_)
    exact ⟨_, rfl, a, rfl, _, rfl, b, rfl, by rw [show joinsB rs a b = true from hm]; exact hp⟩
  | valve n a b p c => exact ⟨⟨rfl, hm⟩, hp⟩
  | pump n a b p c => exact ⟨⟨rfl, hm⟩, hp⟩
  | tap n a l g =>
    obtain ⟨m1, m2, m3⟩ := hm
    show ∃ m, _
    refine ⟨_, rfl, a, rfl, ?_⟩
    rw [if_pos m1]
    refine ⟨_, rfl, l, rfl, _, rfl, g, rfl, ?_⟩
    rw [if_pos (decide_eq_true m2)]
    exact ⟨_, rfl, g, rfl, by rw [decide_eq_true m3]; exact hp⟩
  | meter n a =>
    show ∃ m, _
    exact ⟨_, rfl, a, rfl, by rw [show unm rs a = true from hm]; exact hp⟩
theorem sc_is_full : FnScope ["rows", "kind", "kinds", "most", "row"] ["rows", "kind"] (defScope s_is_full) := ⟨rfl, rfl, rfl, by decide +kernel, rfl, by decide +kernel, by decide +kernel⟩
theorem ok_is_full (T : Txt w K mg) : Ok pw w K mg base "_is_full" (He.fAd K ("_is_full", none)) 1 ["rows", "kind"] (spOf K rs0 (aCons (rpL (i := rpRow)) (aCons rpS aNil)) rpB (fun x post _ => NotFull x.1 x.2.1 ∧ post false)) := by
  obtain ⟨fd, F⟩ := T.d_is_full
  have nd := sc_is_full.nd
  refine ⟨⟨fd, fn_ok F sc_is_full (fun _ => rfl) (fun y cdv A outer s H G E hr => ⟨_, (b_for (lpS := fun s1 : Unit => [.val (rpL (i := rpRow)) y.1, .val rpS y.2.1, .no, .no, .no]) () (.cons (.refl _) (.cons (.refl _) (.cons (.refl _) (.cons (.refl _) (.cons (.refl _) .nil))))) (passes_of rfl) rfl (i_tpl (e_gk (i := rpT (i := rp2 (i := rpT (i := rpS)) (j := rpI))) (m := MAXI) T.g_MAXIMA T.x_mx)) (g_tup2 rfl (g_name 2 nd) (g_name 3 nd))
 (fun x2 s1 => (b_ifE (t_pw (tw_and (t_cmp in_T (e_var 1 rfl) (e_var 2 rfl) rfl) (tw_and1 (t_cmp ge_I (e_cb len_L T.f_len (a_cons (e_lc rfl nd (blkOk_by (own := [("row", 4)]) (by show blkC ["rows", "kind", "kinds", "most", "row"] (defScope s_is_full) _ _ = true; decide +kernel)) (by decide) rfl (i_lst (e_var 0 rfl)) (fun _ _ _ _ _ => (g_name 4 nd)) (fun _ _ _ _ _ c4 => (JTs.conv (ts_one (t_cmp in_T (e_dn dnS (e_ix ix_T (e_up upRow (e_var 4 rfl)) e_int)) (e_var 2 rfl) rfl)) (by first | rfl | (dsimp only [Cx.blk] <;> rfl)) (by first | rfl | (dsimp only [Cx.blk] <;> rfl)))) (fun _ _ _ _ _ c4 => (e_var 4 rfl))) a_nil)) (e_var 3 rfl) (nomark _)))))
 (b_ret e_bool)
 (b_nil () (.cons (.refl _) (.cons (.refl _) (.cons (.no _) (.cons (.no _) (.cons (.refl _) .nil))))))))
 (fun s1 => (b_ret e_bool)))⟩) ?_, F.bindsN fun _ _ _ _ _ _ us hl => match us, hl with | [_, _], _ => rfl⟩, F.kp, T.g_is_full⟩
  intro y post ep h
  dsimp only [endP, seqP, endI]
  obtain ⟨hn, hp⟩ := h
  intro _
  refine forAll _ (fun p hm P q => ?_) hp
  obtain ⟨p0, h0, rfl⟩ := List.mem_map.mp hm
  dsimp only
  rw [any_mem]
  by_cases a : y.2.1 ∈ p0.1
  · rw [if_pos (decide_eq_true a)]
    intro hz
    refine ⟨hz, lcP_eq (fun r => decide (r.kind ∈ p0.1)) (fun r => r) _ (fun r hr P ep p => ⟨_, enc0 r, _, rfl, by rw [any_mem]; exact p⟩) (fun r hr _ P ep p => p) ?_⟩
    intro _
    have := hn p0 h0 a
    rw [List.map_id', if_neg (by
      intro z
      have z := of_decide_eq_true z
      unfold cnt at this
      omega)]
    exact q
  · rw [if_neg (by simpa using a), if_neg (by decide)]
    exact q
theorem sc_is_row_after : FnScope ["rows", "row", "kind", "size", "numbers", "references", "index"] ["rows", "row"] (defScope s_is_row_after) := ⟨rfl, rfl, rfl, by decide +kernel, rfl, by decide +kernel, by decide +kernel⟩
theorem ok_is_row_after (T : Txt w K mg) : Ok pw w K mg base "is_row_after" (He.fAd K ("is_row_after", none)) 6 ["rows", "row"] (spOf K rs0 (aCons (rpL (i := rpRow)) (aCons rpRow aNil)) rpB (fun x post _ => VRow x.1 x.2.1 ∧ post true)) := by
  obtain ⟨fd_is_string, F_is_string, B_is_string⟩ := (ok_is_string (w := w) (base := base) T).ex
  have K_is_string := (ok_is_string (w := w) (base := base) T).kp
  have G_is_string := (ok_is_string (w := w) (base := base) T).gm
  obtain ⟨fd_is_tuple_of, F_is_tuple_of, B_is_tuple_of⟩ := (ok_is_tuple_of (w := w) (base := base) T).ex
  have K_is_tuple_of := (ok_is_tuple_of (w := w) (base := base) T).kp
  have G_is_tuple_of := (ok_is_tuple_of (w := w) (base := base) T).gm
  obtain ⟨fd_is_name, F_is_name, B_is_name⟩ := (ok_is_name (w := w) (base := base) T).ex
  have K_is_name := (ok_is_name (w := w) (base := base) T).kp
  have G_is_name := (ok_is_name (w := w) (base := base) T).gm
  obtain ⟨fd_is_integer, F_is_integer, B_is_integer⟩ := (ok_is_integer (w := w) (base := base) T).ex
  have K_is_integer := (ok_is_integer (w := w) (base := base) T).kp
  have G_is_integer := (ok_is_integer (w := w) (base := base) T).gm
  obtain ⟨fd_kind_of, F_kind_of, B_kind_of⟩ := (ok_kind_of (w := w) (base := base) T).ex
  have K_kind_of := (ok_kind_of (w := w) (base := base) T).kp
  have G_kind_of := (ok_kind_of (w := w) (base := base) T).gm
  obtain ⟨fd_is_full, F_is_full, B_is_full⟩ := (ok_is_full (w := w) (base := base) T).ex
  have K_is_full := (ok_is_full (w := w) (base := base) T).kp
  have G_is_full := (ok_is_full (w := w) (base := base) T).gm
  obtain ⟨fd_meets_conditions, F_meets_conditions, B_meets_conditions⟩ := (ok_meets_conditions (w := w) (base := base) T).ex
  have K_meets_conditions := (ok_meets_conditions (w := w) (base := base) T).kp
  have G_meets_conditions := (ok_meets_conditions (w := w) (base := base) T).gm
  obtain ⟨fd, F⟩ := T.d_is_row_after
  have nd := sc_is_row_after.nd
  refine ⟨⟨fd, fn_ok F sc_is_row_after (fun _ => rfl) (fun y cdv A outer s H G E hr => ⟨_, (b_if (mid := fun s1 : Unit => [.val (rpL (i := rpRow)) y.1, .val rpRow y.2.1, .no, .no, .no, .no, .no]) (t_pw (tw_or (t_not (t_val (e_cb (isiw (cv := .ty "tuple") (u := .type "tuple") (b := true) tyT (.ty _) (L2.kit_ty (by decide +kernel))) T.f_isinstance (a_cons (e_up upRow (e_var 1 rfl)) (a_cons (e_clsB T.f_tuple) a_nil))))) (tw_or1 (t_cmp lt_I (e_cb len_T T.f_len (a_cons (e_up upRow (e_var 1 rfl)) a_nil)) e_int (nomark _)))))
 (b_ret e_bool)
 (b_nil () (.cons (.refl _) (.cons (.refl _) (.cons (.refl _) (.cons (.refl _) (.cons (.refl _) (.cons (.refl _) (.cons (.refl _) .nil))))))))
 (fun s1 => (b_set 2 nd (e_dn dnS (e_ix ix_T (e_up upRow (e_var 1 rfl)) e_int))
 (fun kind_2 => (b_if (mid := fun s3 : Unit => [.val (rpL (i := rpRow)) y.1, .val rpRow y.2.1, .val rpS kind_2, .no, .no, .no, .no]) (t_pw (tw_or (t_not (t_val (e_call F_is_string (hr.mono (by decide)) G_is_string K_is_string B_is_string (takes_of rfl rfl rfl rfl) (a_cons (e_var 2 rfl) a_nil)))) (tw_or1 (t_cmp (nin_K T.ktab) (e_var 2 rfl) (e_gtab T.g_FORMS) rfl))))
 (b_ret e_bool)
 (b_nil () (.cons (.refl _) (.cons (.refl _) (.cons (.refl _) (.cons (.refl _) (.cons (.refl _) (.cons (.refl _) (.cons (.refl _) .nil))))))))
 (fun s3 => (b_asg (e_ix (ix_K (o := oX3) T.ktab) (e_gtab T.g_FORMS) (e_var 2 rfl)) (g_tupX3 rfl (g_name 3 nd) (g_name 4 nd) (g_name 5 nd))
 (fun m4 => (b_if (mid := fun s5 : Unit => [.val (rpL (i := rpRow)) y.1, .val rpRow y.2.1, .val rpS kind_2, .val rpI m4.x0, .val (rpT (i := rpI)) m4.x1, .val (rpT (i := rpI)) m4.x2, .no]) (t_pw (tw_or (t_not (t_val (e_call F_is_tuple_of (hr.mono (by decide)) G_is_tuple_of K_is_tuple_of B_is_tuple_of (takes_of rfl rfl rfl rfl) (a_cons (e_up upRow (e_var 1 rfl)) (a_cons (e_var 3 rfl) a_nil))))) (tw_or1 (t_not (t_val (e_call F_is_name (hr.mono (by decide)) G_is_name K_is_name B_is_name (takes_of rfl rfl rfl rfl) (a_cons (e_dn dnS (e_ix ix_T (e_up upRow (e_var 1 rfl)) e_int)) a_nil)))))))
 (b_ret e_bool)
 (b_nil () (.cons (.refl _) (.cons (.refl _) (.cons (.refl _) (.cons (.refl _) (.cons (.refl _) (.cons (.refl _) (.cons (.refl _) .nil))))))))
 (fun s5 => (b_if (mid := fun s7 : Unit => [.val (rpL (i := rpRow)) y.1, .val rpRow y.2.1, .val rpS kind_2, .val rpI m4.x0, .val (rpT (i := rpI)) m4.x1, .val (rpT (i := rpI)) m4.x2, .no]) (t_not (t_val (e_cb (all_L rfl) T.f_all (a_cons (e_lc rfl nd (blkOk_by (own := [("index", 6)]) (by show blkC ["rows", "row", "kind", "size", "numbers", "references", "index"] (defScope s_is_row_after) _ _ = true; decide +kernel)) (by decide) rfl (i_tpl (e_var 4 rfl)) (fun _ _ _ _ _ => (g_name 6 nd)) (fun _ _ _ _ _ c6 => ts_nil) (fun _ _ _ _ _ c6 => (JE.conv (e_call F_is_integer (hr.mono (by decide)) G_is_integer K_is_integer B_is_integer takes0 (a_cons (e_dn dnI (e_ix ix_T (e_up upRow (e_var 1 rfl)) (e_var 6 rfl))) a_nil)) (by first | rfl | (dsimp only [Cx.blk] <;> rfl)) (by first | rfl | (dsimp only [Cx.blk] <;> rfl))))) a_nil))))
 (b_ret e_bool)
 (b_nil () (.cons (.refl _) (.cons (.refl _) (.cons (.refl _) (.cons (.refl _) (.cons (.refl _) (.cons (.refl _) (.cons (.refl _) .nil))))))))
 (fun s7 => (b_if (mid := fun s9 : Unit => [.val (rpL (i := rpRow)) y.1, .val rpRow y.2.1, .val rpS kind_2, .val rpI m4.x0, .val (rpT (i := rpI)) m4.x1, .val (rpT (i := rpI)) m4.x2, .no]) (t_not (t_val (e_cb (all_L rfl) T.f_all (a_cons (e_lc rfl nd (blkOk_by (own := [("index", 6)]) (by show blkC ["rows", "row", "kind", "size", "numbers", "references", "index"] (defScope s_is_row_after) _ _ = true; decide +kernel)) (by decide) rfl (i_tpl (e_var 5 rfl)) (fun _ _ _ _ _ => (g_name 6 nd)) (fun _ _ _ _ _ c8 => ts_nil) (fun _ _ _ _ _ c8 => (JE.conv (e_call F_is_name (hr.mono (by decide)) G_is_name K_is_name B_is_name takes0 (a_cons (e_dn dnS (e_ix ix_T (e_up upRow (e_var 1 rfl)) (e_var 6 rfl))) a_nil)) (by first | rfl | (dsimp only [Cx.blk] <;> rfl)) (by first | rfl | (dsimp only [Cx.blk] <;> rfl))))) a_nil))))
 (b_ret e_bool)
 (b_nil () (.cons (.refl _) (.cons (.refl _) (.cons (.refl _) (.cons (.refl _) (.cons (.refl _) (.cons (.refl _) (.cons (.refl _) .nil))))))))
 (fun s9 => (b_if (mid := fun s10 : Unit => [.val (rpL (i := rpRow)) y.1, .val rpRow y.2.1, .val rpS kind_2, .val rpI m4.x0, .val (rpT (i := rpI)) m4.x1, .val (rpT (i := rpI)) m4.x2, .no]) (t_pw (tw_or (t_cmp ne_V (e_call F_kind_of (hr.mono (by decide)) G_kind_of K_kind_of B_kind_of (takes_of rfl rfl rfl rfl) (a_cons (e_var 0 rfl) (a_cons (e_dn dnS (e_ix ix_T (e_up upRow (e_var 1 rfl)) e_int)) a_nil))) e_str (nomark _)) (tw_or1 (t_val (e_call F_is_full (hr.mono (by decide)) G_is_full K_is_full B_is_full (takes_of rfl rfl rfl rfl) (a_cons (e_var 0 rfl) (a_cons (e_var 2 rfl) a_nil)))))))
 (b_ret e_bool)
 (b_nil () (.cons (.refl _) (.cons (.refl _) (.cons (.refl _) (.cons (.refl _) (.cons (.refl _) (.cons (.refl _) (.cons (.refl _) .nil))))))))
 (fun s10 => (b_ret (e_call F_meets_conditions (hr.mono (by decide)) G_meets_conditions K_meets_conditions B_meets_conditions (takes_of rfl rfl rfl rfl) (a_cons (e_var 0 rfl) (a_cons (e_var 1 rfl) a_nil))))))))))))))))))))⟩) ?_, F.bindsN fun _ _ _ _ _ _ us hl => match us, hl with | [_, _], _ => rfl⟩, F.kp, T.g_is_row_after⟩
  intro y post ep h
  dsimp only [endP, seqP, endI]
  obtain ⟨hv, hp⟩ := h
  obtain ⟨rs, r, u⟩ := y
  dsimp only at hv ⊢
  have fl := form_len r
  have ff := form_few r
  have nfull := hv.full
  have new := hv.new
  have hm := hv.meets
  have hz := sz
  have ge : ¬ ((r.enc.l.length : Int) < 2) := by cases r <;> simp [Row.enc]
  refine if_nt fun _ => if_dF ge ?_
  refine ⟨_, enc0 r, _, rfl, if_nt ⟨⟨_, form_mem r, rfl⟩, if_f ⟨r.form, form_mem r, ?_⟩⟩⟩
  refine if_nT fl ⟨_, enc1 r, _, rfl, hv.name, if_nt fun h1 => ⟨h1, ?_⟩⟩
  refine lcAll (fun _ => true) _ (fun _ _ _ _ p => p) (fun i hi P ep p => ?_) ?_
  · obtain ⟨n, hn⟩ := form_ints r i hi
    exact ⟨_, hn, n, rfl, p⟩
  rw [all_true _ _ fun _ _ => rfl]
  refine if_nt fun h2 => ⟨h2, ?_⟩
  refine lcAll (fun _ => true) _ (fun _ _ _ _ p => p) (fun i hi P ep p => ?_) ?_
  · obtain ⟨s, hs, e⟩ := form_refs r i hi
    exact ⟨_, e, s, rfl, hv.refs s hs, p⟩
  rw [all_true _ _ fun _ _ => rfl]
  exact if_nt ⟨_, enc1 r, _, rfl, if_nT new ⟨nfull, if_f ⟨hm, hp⟩⟩⟩
theorem sc_names_of : FnScope ["rows", "kinds", "row"] ["rows", "kinds"] (defScope s_names_of) := ⟨rfl, rfl, rfl, by decide +kernel, rfl, by decide +kernel, by decide +kernel⟩
theorem ok_names_of (T : Txt w K mg) : Ok pw w K mg base "_names_of" (He.fAd K ("_names_of", none)) 1 ["rows", "kinds"] (spOf K rs0 (aCons (rpL (i := rpRow)) (aCons (rpT (i := rpS)) aNil)) (rpT (i := rpS)) (fun x post _ => post ⟨nms x.2.1.l x.1⟩)) := by
  obtain ⟨fd, F⟩ := T.d_names_of
  have nd := sc_names_of.nd
  refine ⟨⟨fd, fn_ok F sc_names_of (fun _ => rfl) (fun y cdv A outer s H G E hr => ⟨_, (b_ret (e_ct tuple_L T.f_tuple (a_cons (e_lc rfl nd (blkOk_by (own := [("row", 2)]) (by show blkC ["rows", "kinds", "row"] (defScope s_names_of) _ _ = true; decide +kernel)) (by decide) rfl (i_lst (e_var 0 rfl)) (fun _ _ _ _ _ => (g_name 2 nd)) (fun _ _ _ _ _ c1 => (JTs.conv (ts_one (t_cmp in_T (e_dn dnS (e_ix ix_T (e_up upRow (e_var 2 rfl)) e_int)) (e_var 1 rfl) rfl)) (by first | rfl | (dsimp only [Cx.blk] <;> rfl)) (by first | rfl | (dsimp only [Cx.blk] <;> rfl)))) (fun _ _ _ _ _ c1 => (JE.conv (e_dn dnS (e_ix ix_T (e_up upRow (e_var 2 rfl)) e_int)) (by first | rfl | (dsimp only [Cx.blk] <;> rfl)) (by first | rfl | (dsimp only [Cx.blk] <;> rfl))))) a_nil)))⟩) ?_, F.bindsN fun _ _ _ _ _ _ us hl => match us, hl with | [_, _], _ => rfl⟩, F.kp, T.g_names_of⟩
  intro y post ep h
  dsimp only [endP, seqP, endI]
  intro hz
  exact ⟨hz, lcP_eq (fun r : Row => decide (r.kind ∈ y.2.1.l)) Row.name _ (fun r hr P ep p => ⟨_, enc0 r, _, rfl, by rw [any_mem]; exact p⟩) (fun r hr _ P ep p => ⟨_, enc1 r, _, rfl, p⟩) h⟩
theorem sc_Works_init : FnScope ["self", "rows", "checked", "index", "row"] ["self", "rows"] (defScope s_Works_init) := ⟨rfl, rfl, rfl, by decide +kernel, rfl, by decide +kernel, by decide +kernel⟩
theorem ok_Works_init (T : Txt w K mg) : OkM pw w K mg base (He.fAd K ("Works", some "__init__")) 7 ["self", "rows"] (spI K (He.ga K "Works") (aCons (rpL (i := rpRow)) aNil) rpWk (fun x post _ => VRows x.1 ∧ post (mkW x.1))) := by
  obtain ⟨fd_is_row_after, F_is_row_after, B_is_row_after⟩ := (ok_is_row_after (w := w) (base := base) T).ex
  have K_is_row_after := (ok_is_row_after (w := w) (base := base) T).kp
  have G_is_row_after := (ok_is_row_after (w := w) (base := base) T).gm
  obtain ⟨fd_names_of, F_names_of, B_names_of⟩ := (ok_names_of (w := w) (base := base) T).ex
  have K_names_of := (ok_names_of (w := w) (base := base) T).kp
  have G_names_of := (ok_names_of (w := w) (base := base) T).gm
  obtain ⟨fd, F⟩ := T.d_Works_init
  have nd := sc_Works_init.nd
  refine ⟨⟨fd, fn_okI (mk := mkWk) (fs := fun s => fsW (mkWk s)) (tail := [.no, .no, .no, .no]) F sc_Works_init (fun _ => rfl) (fun s G q dx vs h f => rep_Wk s G q dx vs h f) (fun y q cdv A outer s H Hb G E hr => ⟨_, (b_new rpRow 2 nd (b_for (lpS := fun s1 : (List Row) => [.oi q (He.ga K "Works") [], .val (rpL (i := rpRow)) y.1, .ml rpRow s1, .no, .no]) [] (.cons (.refl _) (.cons (.refl _) (.cons (.refl _) (.cons (.refl _) (.cons (.refl _) .nil))))) (passes_of rfl) rfl (i_enum (by rfl) T.f_enumerate (a_cons (e_var 1 rfl) a_nil)) (g_tup2 rfl (g_name 3 nd) (g_name 4 nd))
 (fun x2 s1 => (b_if (mid := fun s3 : Unit => [.oi q (He.ga K "Works") [], .val (rpL (i := rpRow)) y.1, .ml rpRow s1, .val rpI x2.1, .val rpRow x2.2]) (t_lend (lend_ml 2 rfl) (t_not (t_val (e_call F_is_row_after (hr.mono (by decide)) G_is_row_after K_is_row_after B_is_row_after (takes_of rfl rfl rfl rfl) (a_cons (e_var 2 rfl) (a_cons (e_var 4 rfl) a_nil))))))
 b_never
 (b_nil () (.cons (.refl _) (.cons (.refl _) (.cons (.refl _) (.cons (.refl _) (.cons (.refl _) .nil))))))
 (fun s3 => (b_app1 2 rfl (e_var 4 rfl)
 (fun m4 => (b_nil (s1 ++ [m4]) (.cons (.refl _) (.cons (.refl _) (.cons (.refl _) (.cons (.no _) (.cons (.no _) .nil)))))))))))
 (fun s1 => (b_frz 2 rfl (b_fld 0 rfl T.c_Works T.n_Works_rows (by first | decide | (simp only [List.nil_append, List.cons_append, List.map_cons, List.map_nil]; decide)) (by simp) (e_ct tuple_L T.f_tuple (a_cons (e_var 2 rfl) a_nil))
 (fun rows_5 => (b_fld 0 rfl T.c_Works T.n_Works_places (by first | decide | (simp only [List.nil_append, List.cons_append, List.map_cons, List.map_nil]; decide)) (by simp) (e_call F_names_of (hr.mono (by decide)) G_names_of K_names_of B_names_of (takes_of rfl rfl rfl rfl) (a_cons (e_var 2 rfl) (a_cons (e_gk (i := rpT (i := rpS)) (m := (⟨["node", "source", "tank"]⟩ : Tu Str)) T.g_PLACE_KINDS T.x_pk) a_nil)))
 (fun places_6 => (b_fld 0 rfl T.c_Works T.n_Works_links (by first | decide | (simp only [List.nil_append, List.cons_append, List.map_cons, List.map_nil]; decide)) (by simp) (e_call F_names_of (hr.mono (by decide)) G_names_of K_names_of B_names_of (takes_of rfl rfl rfl rfl) (a_cons (e_var 2 rfl) (a_cons (e_gk (i := rpT (i := rpS)) (m := (⟨["pipe", "valve"]⟩ : Tu Str)) T.g_LINK_KINDS T.x_lk) a_nil)))
 (fun links_7 => (b_fld 0 rfl T.c_Works T.n_Works_valves (by first | decide | (simp only [List.nil_append, List.cons_append, List.map_cons, List.map_nil]; decide)) (by simp) (e_call F_names_of (hr.mono (by decide)) G_names_of K_names_of B_names_of (takes_of rfl rfl rfl rfl) (a_cons (e_var 2 rfl) (a_cons (e_tupT (a_cons e_str a_nil) (.cons .nil)) a_nil)))
 (fun valves_8 => (b_fld 0 rfl T.c_Works T.n_Works_pumps (by first | decide | (simp only [List.nil_append, List.cons_append, List.map_cons, List.map_nil]; decide)) (by simp) (e_call F_names_of (hr.mono (by decide)) G_names_of K_names_of B_names_of (takes_of rfl rfl rfl rfl) (a_cons (e_var 2 rfl) (a_cons (e_tupT (a_cons e_str a_nil) (.cons .nil)) a_nil)))
 (fun pumps_9 => (b_fld 0 rfl T.c_Works T.n_Works_gates (by first | decide | (simp only [List.nil_append, List.cons_append, List.map_cons, List.map_nil]; decide)) (by simp) (e_op add_T (e_fldO (iα := (rpT (i := rpS))) (m := valves_8) (pre := [("rows", fld (rpT (i := rpRow)) rows_5), ("places", fld (rpT (i := rpS)) places_6), ("links", fld (rpT (i := rpS)) links_7)]) (post := [("pumps", fld (rpT (i := rpS)) pumps_9)]) 0 rfl T.c_Works T.n_Works_valves rfl (by first | decide | (simp only [List.map]; decide))) (e_fldO (iα := (rpT (i := rpS))) (m := pumps_9) (pre := [("rows", fld (rpT (i := rpRow)) rows_5), ("places", fld (rpT (i := rpS)) places_6), ("links", fld (rpT (i := rpS)) links_7), ("valves", fld (rpT (i := rpS)) valves_8)]) (post := []) 0 rfl T.c_Works T.n_Works_pumps rfl (by first | decide | (simp only [List.map]; decide))))
 (fun gates_10 => (b_fld 0 rfl T.c_Works T.n_Works_tanks (by first | decide | (simp only [List.nil_append, List.cons_append, List.map_cons, List.map_nil]; decide)) (by simp) (e_call F_names_of (hr.mono (by decide)) G_names_of K_names_of B_names_of (takes_of rfl rfl rfl rfl) (a_cons (e_var 2 rfl) (a_cons (e_tupT (a_cons e_str a_nil) (.cons .nil)) a_nil)))
 (fun tanks_11 => (b_fld 0 rfl T.c_Works T.n_Works_taps (by first | decide | (simp only [List.nil_append, List.cons_append, List.map_cons, List.map_nil]; decide)) (by simp) (e_call F_names_of (hr.mono (by decide)) G_names_of K_names_of B_names_of (takes_of rfl rfl rfl rfl) (a_cons (e_var 2 rfl) (a_cons (e_tupT (a_cons e_str a_nil) (.cons .nil)) a_nil)))
 (fun taps_12 => (b_fld 0 rfl T.c_Works T.n_Works_meters (by first | decide | (simp only [List.nil_append, List.cons_append, List.map_cons, List.map_nil]; decide)) (by simp) (e_call F_names_of (hr.mono (by decide)) G_names_of K_names_of B_names_of (takes_of rfl rfl rfl rfl) (a_cons (e_var 2 rfl) (a_cons (e_tupT (a_cons e_str a_nil) (.cons .nil)) a_nil)))
 (fun meters_13 => (b_fld 0 rfl T.c_Works T.n_Works_instruments (by first | decide | (simp only [List.nil_append, List.cons_append, List.map_cons, List.map_nil]; decide)) (by simp) (e_op add_T (e_fldO (iα := (rpT (i := rpS))) (m := meters_13) (pre := [("rows", fld (rpT (i := rpRow)) rows_5), ("places", fld (rpT (i := rpS)) places_6), ("links", fld (rpT (i := rpS)) links_7), ("valves", fld (rpT (i := rpS)) valves_8), ("pumps", fld (rpT (i := rpS)) pumps_9), ("gates", fld (rpT (i := rpS)) gates_10), ("tanks", fld (rpT (i := rpS)) tanks_11), ("taps", fld (rpT (i := rpS)) taps_12)]) (post := []) 0 rfl T.c_Works T.n_Works_meters rfl (by first | decide | (simp only [List.map]; decide))) (e_fldO (iα := (rpT (i := rpS))) (m := taps_12) (pre := [("rows", fld (rpT (i := rpRow)) rows_5), ("places", fld (rpT (i := rpS)) places_6), ("links", fld (rpT (i := rpS)) links_7), ("valves", fld (rpT (i := rpS)) valves_8), ("pumps", fld (rpT (i := rpS)) pumps_9), ("gates", fld (rpT (i := rpS)) gates_10), ("tanks", fld (rpT (i := rpS)) tanks_11)]) (post := [("meters", fld (rpT (i := rpS)) meters_13)]) 0 rfl T.c_Works T.n_Works_taps rfl (by first | decide | (simp only [List.map]; decide))))
 (fun instruments_14 => (b_fld 0 rfl T.c_Works T.n_Works__row_by_name (by first | decide | (simp only [List.nil_append, List.cons_append, List.map_cons, List.map_nil]; decide)) (by simp) (e_dc rfl nd (blkOk_by (own := [("row", 4)]) (by show blkC ["self", "rows", "checked", "index", "row"] (defScope s_Works_init) _ _ = true; decide +kernel)) (by decide) rfl (i_lst (e_var 2 rfl)) (fun _ _ _ _ _ => (g_name 4 nd)) (fun _ _ _ _ _ c15 => ts_nil) (fun _ _ _ _ _ c15 => (JE.conv (e_dn dnS (e_ix ix_T (e_up upRow (e_var 4 rfl)) e_int)) (by first | rfl | (dsimp only [Cx.blk] <;> rfl)) (by first | rfl | (dsimp only [Cx.blk] <;> rfl)))) (fun _ _ _ _ _ c15 => (e_var 4 rfl)))
 (fun row_by_name_16 => (b_nil (rows_5.l, places_6.l, links_7.l, valves_8.l, pumps_9.l, gates_10.l, tanks_11.l, taps_12.l, meters_13.l, instruments_14.l, row_by_name_16.l) (.cons (.refl _) (.cons (.no _) (.cons (.no _) (.cons (.refl _) (.cons (.refl _) .nil))))))))))))))))))))))))))))))))⟩) ?_, F.bindsN fun _ _ _ _ _ _ us hl => match us, hl with | [_, _], _ => rfl⟩⟩
  intro y post ep h
  dsimp only [endP, seqP, endI]
  obtain ⟨hv, hp⟩ := h
  have hz := sz
  have fw := hv.few.1
  refine forP_ind (fun rest s => s ++ rest.map (·.2) = y.1) (fun s hi => ?_) (fun x r s next hn hi => ?_) _ _ ?_
  · have hi : s = y.1 := by simpa using hi
    rw [hi]
    have b : ∀ ks, (nms ks y.1).length ≤ 58 := fun ks => by
      have := (nms_sub y.1 ks).length_le
      rw [List.length_map] at this
      omega
    have b1 := b ["valve"]
    have b2 := b ["pump"]
    have b3 := b ["meter"]
    have b4 := b ["tap"]
    refine ⟨by omega, len_lit (by show 1 ≤ 1000; decide), len_lit (by show 1 ≤ 1000; decide), by omega, len_lit (by show 1 ≤ 1000; decide), len_lit (by show 1 ≤ 1000; decide), len_lit (by show 1 ≤ 1000; decide), by omega, fun hl => ⟨hl, ?_⟩⟩
    exact dcP_all Row.name (fun r => r) _ _ (fun _ _ _ _ p => p) (fun r _ P ep p => ⟨_, enc1 r, _, rfl, p⟩) (fun _ _ _ _ p => p) hp
  · have e : y.1 = s ++ x.2 :: r.map (·.2) := by rw [← hi]; rfl
    have ln := congrArg List.length e
    rw [List.length_append, List.length_cons] at ln
    exact ⟨by omega, hv.at e, if_nt ⟨by omega, hn _ (by rw [e]; simp)⟩⟩
  · simp [enumI, List.map_map, Function.comp_def, List.zipIdx_map_fst]
theorem sc_Works_contains : FnScope ["self", "name"] ["self", "name"] (defScope s_Works_contains) := ⟨rfl, rfl, rfl, by decide +kernel, rfl, by decide +kernel, by decide +kernel⟩
theorem ok_Works_contains (T : Txt w K mg) : OkM pw w K mg base (He.fAd K ("Works", some "__contains__")) 2 ["self", "name"] (spOf K rs0 (aCons rpWk (aCons rpS aNil)) rpB (fun x post _ => post (rowAt x.1 x.2.1).isSome)) := by
  obtain ⟨fd_is_string, F_is_string, B_is_string⟩ := (ok_is_string (w := w) (base := base) T).ex
  have K_is_string := (ok_is_string (w := w) (base := base) T).kp
  have G_is_string := (ok_is_string (w := w) (base := base) T).gm
  obtain ⟨fd, F⟩ := T.d_Works_contains
  have nd := sc_Works_contains.nd
  refine ⟨⟨fd, fn_ok F sc_Works_contains (fun _ => rfl) (fun y cdv A outer s H G E hr => ⟨_, (b_ret (e_and (e_call F_is_string (hr.mono (by decide)) G_is_string K_is_string B_is_string (takes_of rfl rfl rfl rfl) (a_cons (e_var 1 rfl) a_nil)) (e_one (e_inDi (by exact HU1 hr) (e_var 1 rfl) (e_fld (fl_row_by_name T) (e_var 0 rfl))))))⟩) ?_, F.bindsN fun _ _ _ _ _ _ us hl => match us, hl with | [_, _], _ => rfl⟩⟩
  intro y post ep h
  dsimp only [endP, seqP, endI]
  exact h
theorem sc_Works_row_of : FnScope ["self", "name"] ["self", "name"] (defScope s_Works_row_of) := ⟨rfl, rfl, rfl, by decide +kernel, rfl, by decide +kernel, by decide +kernel⟩
theorem ok_Works_row_of (T : Txt w K mg) : OkM pw w K mg base (He.fAd K ("Works", some "row_of")) 3 ["self", "name"] (spOf K rs0 (aCons rpWk (aCons rpS aNil)) rpRow (fun x post _ => ∃ r, rowAt x.1 x.2.1 = some r ∧ post r)) := by
  obtain ⟨fd_Works_contains, F_Works_contains, B_Works_contains⟩ := (ok_Works_contains (w := w) (base := base) T).ex
  obtain ⟨fd, F⟩ := T.d_Works_row_of
  have nd := sc_Works_row_of.nd
  refine ⟨⟨fd, fn_ok F sc_Works_row_of (fun _ => rfl) (fun y cdv A outer s H G E hr => ⟨_, (b_if (mid := fun s1 : Unit => [.val rpWk y.1, .val rpS y.2.1]) (t_cmp (ninw_own ins_Wk F_Works_contains B_Works_contains (hr.mono (by decide)) T.m_Works_contains.at_ T.m_Works_contains.fn) (e_var 1 rfl) (e_var 0 rfl) rfl)
 b_never
 (b_nil () (.cons (.refl _) (.cons (.refl _) .nil)))
 (fun s1 => (b_ret (e_get (by exact HU1 hr) (e_fld (fl_row_by_name T) (e_var 0 rfl)) (e_var 1 rfl)))))⟩) ?_, F.bindsN fun _ _ _ _ _ _ us hl => match us, hl with | [_, _], _ => rfl⟩⟩
  intro y post ep h
  dsimp only [endP, seqP, endI]
  obtain ⟨r, h1, h2⟩ := h
  rw [show (rowAt y.1 y.2.1).isSome = true by rw [h1]; rfl]
  exact if_nt ⟨r, h1, h2⟩
theorem sc_Works_ends_of : FnScope ["self", "link", "row"] ["self", "link"] (defScope s_Works_ends_of) := ⟨rfl, rfl, rfl, by decide +kernel, rfl, by decide +kernel, by decide +kernel⟩
theorem ok_Works_ends_of (T : Txt w K mg) : OkM pw w K mg base (He.fAd K ("Works", some "ends_of")) 1 ["self", "link"] (spOf K rs0 (aCons rpWk (aCons rpS aNil)) (rp2 (i := rpS) (j := rpS)) (fun x post _ => x.2.1 ∈ x.1.links ∧ ∃ r p, rowAt x.1 x.2.1 = some r ∧ r.ends = some p ∧ post p)) := by
  obtain ⟨fd, F⟩ := T.d_Works_ends_of
  have nd := sc_Works_ends_of.nd
  refine ⟨⟨fd, fn_ok F sc_Works_ends_of (fun _ => rfl) (fun y cdv A outer s H G E hr => ⟨_, (b_if (mid := fun s1 : Unit => [.val rpWk y.1, .val rpS y.2.1, .no]) (t_cmp nin_T (e_var 1 rfl) (e_fld (fl_links T) (e_var 0 rfl)) rfl)
 b_never
 (b_nil () (.cons (.refl _) (.cons (.refl _) (.cons (.refl _) .nil))))
 (fun s1 => (b_set 2 nd (e_get (by exact HU1 hr) (e_fld (fl_row_by_name T) (e_var 0 rfl)) (e_var 1 rfl))
 (fun row_2 => (b_ret (e_tup2 (a_cons (e_dn dnS (e_ix ix_T (e_up upRow (e_var 2 rfl)) e_int)) (a_cons (e_dn dnS (e_ix ix_T (e_up upRow (e_var 2 rfl)) e_int)) a_nil))))))))⟩) ?_, F.bindsN fun _ _ _ _ _ _ us hl => match us, hl with | [_, _], _ => rfl⟩⟩
  intro y post ep h
  dsimp only [endP, seqP, endI]
  obtain ⟨h1, r, p, h2, h3, h4⟩ := h
  rw [any_mem, decide_eq_true h1, if_neg (by decide)]
  refine ⟨r, h2, ?_⟩
  cases r with
  | pipe n a b => cases h3; exact ⟨_, rfl, a, rfl, _, rfl, b, rfl, h4⟩
  | valve n a b q c => cases h3; exact ⟨_, rfl, a, rfl, _, rfl, b, rfl, h4⟩
  | pump n a b q c => cases h3; exact ⟨_, rfl, a, rfl, _, rfl, b, rfl, h4⟩
  | _ => cases h3
theorem sc_feeders : FnScope ["works", "row"] ["works"] (defScope s_feeders) := ⟨rfl, rfl, rfl, by decide +kernel, rfl, by decide +kernel, by decide +kernel⟩
theorem ok_feeders (T : Txt w K mg) : Ok pw w K mg base "feeders" (He.fAd K ("feeders", none)) 1 ["works"] (spOf K rs0 (aCons rpWk aNil) (rpT (i := rpS)) (fun x post _ => post ⟨nms FK x.1.rows⟩)) := by
  obtain ⟨fd, F⟩ := T.d_feeders
  have nd := sc_feeders.nd
  refine ⟨⟨fd, fn_ok F sc_feeders (fun _ => rfl) (fun y cdv A outer s H G E hr => ⟨_, (b_ret (e_ct tuple_L T.f_tuple (a_cons (e_lc rfl nd (blkOk_by (own := [("row", 1)]) (by show blkC ["works", "row"] (defScope s_feeders) _ _ = true; decide +kernel)) (by decide) rfl (i_tpl (e_fld (fl_rows T) (e_var 0 rfl))) (fun _ _ _ _ _ => (g_name 1 nd)) (fun _ _ _ _ _ c1 => (JTs.conv (ts_one (t_cmp in_T (e_dn dnS (e_ix ix_T (e_up upRow (e_var 1 rfl)) e_int)) (e_tupT (a_cons e_str (a_cons e_str a_nil)) (.cons (.cons .nil))) rfl)) (by first | rfl | (dsimp only [Cx.blk] <;> rfl)) (by first | rfl | (dsimp only [Cx.blk] <;> rfl)))) (fun _ _ _ _ _ c1 => (JE.conv (e_dn dnS (e_ix ix_T (e_up upRow (e_var 1 rfl)) e_int)) (by first | rfl | (dsimp only [Cx.blk] <;> rfl)) (by first | rfl | (dsimp only [Cx.blk] <;> rfl))))) a_nil)))⟩) ?_, F.bindsN fun _ _ _ _ _ _ us hl => match us, hl with | [_], _ => rfl⟩, F.kp, T.g_feeders⟩
  intro y post ep h
  dsimp only [endP, seqP, endI]
  intro hz
  exact ⟨hz, lcP_eq (fun r : Row => decide (r.kind ∈ FK)) Row.name _ (fun r hr P ep p => ⟨_, enc0 r, _, rfl, by decide, by rw [any_mem]; exact p⟩) (fun r hr _ P ep p => ⟨_, enc1 r, _, rfl, p⟩) h⟩
theorem sc_check_part : FnScope ["works", "part", "name"] ["works", "part"] (defScope s_check_part) := ⟨rfl, rfl, rfl, by decide +kernel, rfl, by decide +kernel, by decide +kernel⟩
theorem ok_check_part (T : Txt w K mg) : Ok pw w K mg base "check_part" (He.fAd K ("check_part", none)) 1 ["works", "part"] (spOf K rs0 (aCons rpWk (aCons (rpT (i := rpS)) aNil)) rpN (fun x post _ => PartOk x.1 x.2.1.l ∧ post ())) := by
  obtain ⟨fd, F⟩ := T.d_check_part
  have nd := sc_check_part.nd
  refine ⟨⟨fd, fn_okU F sc_check_part (fun _ => rfl) (fun y cdv A outer s H G E hr => ⟨_, (b_if (mid := fun s1 : Unit => [.val rpWk y.1, .val (rpT (i := rpS)) y.2.1, .no]) (t_pw (tw_or (t_cmp eq_V (e_cb len_T T.f_len (a_cons (e_var 1 rfl) a_nil)) e_int (nomark _)) (tw_or1 (t_cmp ne_V (e_lenSetT rfl T.f_len T.f_set (e_var 1 rfl)) (e_cb len_T T.f_len (a_cons (e_var 1 rfl) a_nil)) (nomark _)))))
 b_never
 (b_nil () (.cons (.refl _) (.cons (.refl _) (.cons (.refl _) .nil))))
 (fun s1 => (b_for (lpS := fun s2 : Unit => [.val rpWk y.1, .val (rpT (i := rpS)) y.2.1, .no]) () (.cons (.refl _) (.cons (.refl _) (.cons (.refl _) .nil))) (passes_of rfl) rfl (i_tpl (e_var 1 rfl)) (g_name 2 nd)
 (fun x3 s2 => (b_ifE (t_cmp nin_T (e_var 2 rfl) (e_fld (fl_places T) (e_var 0 rfl)) rfl)
 b_never
 (b_nil () (.cons (.refl _) (.cons (.refl _) (.cons (.no _) .nil))))))
 (fun s2 => (b_nil () (.cons (.no _) (.cons (.no _) (.cons (.refl _) .nil))))))))⟩) ?_, F.bindsN fun _ _ _ _ _ _ us hl => match us, hl with | [_, _], _ => rfl⟩, F.kp, T.g_check_part⟩
  intro y post ep h
  dsimp only [endP, seqP, endI]
  obtain ⟨hq, hp⟩ := h
  intro hz
  have h0 : y.2.1.l.length ≠ 0 := fun z => hq.ne (List.eq_nil_of_length_eq_zero z)
  have := hq.few
  rw [if_neg (by simp only [decide_eq_true_eq]; omega)]
  refine ⟨⟨hq.nd, by omega⟩, fun _ => ?_⟩
  rw [if_neg (by simp)]
  intro _
  refine forAll _ (fun n hn P q => ?_) hp
  rw [any_mem, decide_eq_true (hq.pl n hn), if_neg (by decide)]
  exact q
theorem sc_check_folds : FnScope ["folds"] ["folds"] (defScope s_check_folds) := ⟨rfl, rfl, rfl, by decide +kernel, rfl, by decide +kernel, by decide +kernel⟩
theorem ok_check_folds (T : Txt w K mg) : Ok pw w K mg base "check_folds" (He.fAd K ("check_folds", none)) 3 ["folds"] (spOf K rs0 (aCons rpI aNil) rpN (fun x post _ => (1 ≤ x.1 ∧ x.1 ≤ 4) ∧ post ())) := by
  obtain ⟨fd_is_within, F_is_within, B_is_within⟩ := (ok_is_within (w := w) (base := base) T).ex
  have K_is_within := (ok_is_within (w := w) (base := base) T).kp
  have G_is_within := (ok_is_within (w := w) (base := base) T).gm
  obtain ⟨t_LEAST_FOLDS, G_LEAST_FOLDS⟩ := T.i_LEAST_FOLDS
  obtain ⟨t_MOST_FOLDS, G_MOST_FOLDS⟩ := T.i_MOST_FOLDS
  obtain ⟨fd, F⟩ := T.d_check_folds
  have nd := sc_check_folds.nd
  refine ⟨⟨fd, fn_okU F sc_check_folds (fun _ => rfl) (fun y cdv A outer s H G E hr => ⟨_, (b_ifE (t_not (t_val (e_call F_is_within (hr.mono (by decide)) G_is_within K_is_within B_is_within (takes_of rfl rfl rfl rfl) (a_cons (e_var 0 rfl) (a_cons (e_glob (i := rpI) (m := (1 : Int)) (v := .int 1) G_LEAST_FOLDS ⟨_, rfl⟩ (fun _ => rfl)) (a_cons (e_glob (i := rpI) (m := (4 : Int)) (v := .int 4) G_MOST_FOLDS ⟨_, rfl⟩ (fun _ => rfl)) a_nil))))))
 b_never
 (b_nil () (.cons (.no _) .nil)))⟩) ?_, F.bindsN fun _ _ _ _ _ _ us hl => match us, hl with | [_], _ => rfl⟩, F.kp, T.g_check_folds⟩
  intro y post ep h
  dsimp only [endP, seqP, endI]
  rw [decide_eq_true h.1, if_neg (by decide)]
  exact h.2
theorem sc_check_valves : FnScope ["works", "valves", "name"] ["works", "valves"] (defScope s_check_valves) := ⟨rfl, rfl, rfl, by decide +kernel, rfl, by decide +kernel, by decide +kernel⟩
theorem ok_check_valves (T : Txt w K mg) : Ok pw w K mg base "check_valves" (He.fAd K ("check_valves", none)) 1 ["works", "valves"] (spOf K rs0 (aCons rpWk (aCons (rpT (i := rpS)) aNil)) rpN (fun x post _ => (∀ n ∈ x.2.1.l, n ∈ x.1.valves) ∧ post ())) := by
  obtain ⟨fd, F⟩ := T.d_check_valves
  have nd := sc_check_valves.nd
  refine ⟨⟨fd, fn_okU F sc_check_valves (fun _ => rfl) (fun y cdv A outer s H G E hr => ⟨_, (b_for (lpS := fun s1 : Unit => [.val rpWk y.1, .val (rpT (i := rpS)) y.2.1, .no]) () (.cons (.refl _) (.cons (.refl _) (.cons (.refl _) .nil))) (passes_of rfl) rfl (i_tpl (e_var 1 rfl)) (g_name 2 nd)
 (fun x2 s1 => (b_ifE (t_cmp nin_T (e_var 2 rfl) (e_fld (fl_valves T) (e_var 0 rfl)) rfl)
 b_never
 (b_nil () (.cons (.refl _) (.cons (.refl _) (.cons (.no _) .nil))))))
 (fun s1 => (b_nil () (.cons (.no _) (.cons (.no _) (.cons (.refl _) .nil))))))⟩) ?_, F.bindsN fun _ _ _ _ _ _ us hl => match us, hl with | [_, _], _ => rfl⟩, F.kp, T.g_check_valves⟩
  intro y post ep h
  dsimp only [endP, seqP, endI]
  intro _
  refine forAll _ (fun n hn P q => ?_) h.2
  rw [any_mem, decide_eq_true (h.1 n hn), if_neg (by decide)]
  exact q
theorem sc_valve_cost : FnScope ["works", "valve"] ["works", "valve"] (defScope s_valve_cost) := ⟨rfl, rfl, rfl, by decide +kernel, rfl, by decide +kernel, by decide +kernel⟩
theorem ok_valve_cost (T : Txt w K mg) : Ok pw w K mg base "valve_cost" (He.fAd K ("valve_cost", none)) 4 ["works", "valve"] (spOf K rs0 (aCons rpWk (aCons rpS aNil)) rpI (fun x post _ => (IsW x.1 ∧ x.2.1 ∈ x.1.valves) ∧ post (costAt x.1 x.2.1))) := by
  obtain ⟨fd_Works_row_of, F_Works_row_of, B_Works_row_of⟩ := (ok_Works_row_of (w := w) (base := base) T).ex
  obtain ⟨fd, F⟩ := T.d_valve_cost
  have nd := sc_valve_cost.nd
  refine ⟨⟨fd, fn_ok F sc_valve_cost (fun _ => rfl) (fun y cdv A outer s H G E hr => ⟨_, (b_ret (e_dn dnI (e_ix ix_T (e_up upRow (e_meth (insN_Wk (by decide)) (e_var 0 rfl) T.c_Works T.m_Works_row_of F_Works_row_of (hr.mono (by decide)) B_Works_row_of (takes_of rfl rfl rfl rfl) (a_cons (e_var 1 rfl) a_nil))) e_int)))⟩) ?_, F.bindsN fun _ _ _ _ _ _ us hl => match us, hl with | [_, _], _ => rfl⟩, F.kp, T.g_valve_cost⟩
  intro y post ep h
  dsimp only [endP, seqP, endI]
  obtain ⟨⟨⟨rs, hv, e⟩, hm⟩, hp⟩ := h
  rw [e] at hm hp ⊢
  obtain ⟨a, b, p, c, h1, h2, h3⟩ := valve_of hv hm
  refine ⟨_, h2, _, rfl, c, rfl, ?_⟩
  unfold costAt at hp
  rw [h2] at hp
  exact hp
theorem sc_valve_count : FnScope ["path", "valves", "link"] ["path", "valves"] (defScope s_valve_count) := ⟨rfl, rfl, rfl, by decide +kernel, rfl, by decide +kernel, by decide +kernel⟩
theorem ok_valve_count (T : Txt w K mg) : Ok pw w K mg base "valve_count" (He.fAd K ("valve_count", none)) 1 ["path", "valves"] (spOf K rs0 (aCons (rpT (i := rpS)) (aCons (rpT (i := rpS)) aNil)) rpI (fun x post _ => x.1.l.length ≤ 1000 ∧ post (vcnt x.1.l x.2.1.l : Int))) := by
  obtain ⟨fd, F⟩ := T.d_valve_count
  have nd := sc_valve_count.nd
  refine ⟨⟨fd, fn_ok F sc_valve_count (fun _ => rfl) (fun y cdv A outer s H G E hr => ⟨_, (b_ret (e_cb len_L T.f_len (a_cons (e_lc rfl nd (blkOk_by (own := [("link", 2)]) (by show blkC ["path", "valves", "link"] (defScope s_valve_count) _ _ = true; decide +kernel)) (by decide) rfl (i_tpl (e_step (e_var 0 rfl) (o_some e_int) o_none (o_some e_int))) (fun _ _ _ _ _ => (g_name 2 nd)) (fun _ _ _ _ _ c2 => (JTs.conv (ts_one (t_cmp in_T (e_var 2 rfl) (e_var 1 rfl) rfl)) (by first | rfl | (dsimp only [Cx.blk] <;> rfl)) (by first | rfl | (dsimp only [Cx.blk] <;> rfl)))) (fun _ _ _ _ _ c2 => (e_var 2 rfl))) a_nil)))⟩) ?_, F.bindsN fun _ _ _ _ _ _ us hl => match us, hl with | [_, _], _ => rfl⟩, F.kp, T.g_valve_count⟩
  intro y post ep h
  dsimp only [endP, seqP, endI]
  obtain ⟨hl, hp⟩ := h
  have e := odds_len y.1.l
  have hz := sz
  refine ⟨2, rfl, ⟨by decide, by decide, by rw [cut_odds]; omega⟩, fun hz => ⟨hz, ?_⟩⟩
  rw [cut_odds]
  refine lcP_eq (fun l => decide (l ∈ y.2.1.l)) (fun l => l) _ (fun l _ P ep p => by rw [any_mem]; exact p) (fun _ _ _ P ep p => p) ?_
  intro _
  rw [List.map_id']
  exact hp
theorem sc_joins : FnScope ["works", "link", "one", "other"] ["works", "link", "one", "other"] (defScope s_joins) := ⟨rfl, rfl, rfl, by decide +kernel, rfl, by decide +kernel, by decide +kernel⟩
theorem ok_joins (T : Txt w K mg) : Ok pw w K mg base "joins" (He.fAd K ("joins", none)) 2 ["works", "link", "one", "other"] (spOf K rs0 (aCons rpWk (aCons rpS (aCons rpS (aCons rpS aNil)))) rpB (fun x post _ => (IsW x.1 ∧ Step x.1 x.2.1 x.2.2.1 x.2.2.2.1) ∧ post true)) := by
  obtain ⟨fd_Works_ends_of, F_Works_ends_of, B_Works_ends_of⟩ := (ok_Works_ends_of (w := w) (base := base) T).ex
  obtain ⟨fd, F⟩ := T.d_joins
  have nd := sc_joins.nd
  refine ⟨⟨fd, fn_ok F sc_joins (fun _ => rfl) (fun y cdv A outer s H G E hr => ⟨_, (b_ret (e_and (e_cmp in_T (e_var 1 rfl) (e_fld (fl_links T) (e_var 0 rfl)) rfl) (e_one (e_cmp (in_TD (by exact HU65 hr)) (e_meth (insN_Wk (by decide)) (e_var 0 rfl) T.c_Works T.m_Works_ends_of F_Works_ends_of (hr.mono (by decide)) B_Works_ends_of (takes_of rfl rfl rfl rfl) (a_cons (e_var 1 rfl) a_nil)) (e_tupT (a_cons (e_tup2 (a_cons (e_var 2 rfl) (a_cons (e_var 3 rfl) a_nil))) (a_cons (e_tup2 (a_cons (e_var 3 rfl) (a_cons (e_var 2 rfl) a_nil))) a_nil)) (.cons (.cons .nil))) rfl))))⟩) ?_, F.bindsN fun _ _ _ _ _ _ us hl => match us, hl with | [_, _, _, _], _ => rfl⟩, F.kp, T.g_joins⟩
  intro y post ep h
  dsimp only [endP, seqP, endI]
  obtain ⟨⟨⟨rs, hv, e⟩, hs⟩, hp⟩ := h
  obtain ⟨m, l, a, b, u⟩ := y
  dsimp only at e hs ⊢
  subst e
  have hs0 := hs
  obtain ⟨h1, r, h2, h3⟩ := hs
  obtain ⟨_, q2, q3, _⟩ := step_pl hv hs0
  refine if_inT h1 ⟨h1, r, ?_⟩
  have oa := name_str (nms_name hv q2)
  have ob := name_str (nms_name hv q3)
  have ok : ∀ m : Str × Str, m ∈ [(a, b), (b, a)] → PyData.strOk m.1 = true ∧ PyData.strOk m.2 = true := fun m hm => by
    simp only [List.mem_cons, List.not_mem_nil, or_false] at hm
    rcases hm with rfl | rfl
    · exact ⟨oa, ob⟩
    · exact ⟨ob, oa⟩
  rcases h3 with h3 | h3
  · exact ⟨(a, b), h2, h3, len_lit (by show 2 ≤ 1000; decide), ⟨oa, ob⟩, ok, by simpa using hp⟩
  · exact ⟨(b, a), h2, h3, len_lit (by show 2 ≤ 1000; decide), ⟨ob, oa⟩, ok, by simpa using hp⟩
theorem sc_is_path : FnScope ["works", "part", "certificate", "places", "at"] ["works", "part", "certificate"] (defScope s_is_path) := ⟨rfl, rfl, rfl, by decide +kernel, rfl, by decide +kernel, by decide +kernel⟩
theorem ok_is_path (T : Txt w K mg) : Ok pw w K mg base "is_path" (He.fAd K ("is_path", none)) 3 ["works", "part", "certificate"] (spOf K rs0 (aCons rpWk (aCons (rpT (i := rpS)) (aCons (rpT (i := rpS)) aNil))) rpB (fun x post _ => (IsW x.1 ∧ PartOk x.1 x.2.1.l ∧ PathOk x.1 x.2.1.l x.2.2.1.l) ∧ post true)) := by
  obtain ⟨fd_check_part, F_check_part, B_check_part⟩ := (ok_check_part (w := w) (base := base) T).ex
  have K_check_part := (ok_check_part (w := w) (base := base) T).kp
  have G_check_part := (ok_check_part (w := w) (base := base) T).gm
  obtain ⟨fd_is_strings, F_is_strings, B_is_strings⟩ := (ok_is_strings (w := w) (base := base) T).ex
  have K_is_strings := (ok_is_strings (w := w) (base := base) T).kp
  have G_is_strings := (ok_is_strings (w := w) (base := base) T).gm
  obtain ⟨fd_feeders, F_feeders, B_feeders⟩ := (ok_feeders (w := w) (base := base) T).ex
  have K_feeders := (ok_feeders (w := w) (base := base) T).kp
  have G_feeders := (ok_feeders (w := w) (base := base) T).gm
  obtain ⟨fd_joins, F_joins, B_joins⟩ := (ok_joins (w := w) (base := base) T).ex
  have K_joins := (ok_joins (w := w) (base := base) T).kp
  have G_joins := (ok_joins (w := w) (base := base) T).gm
  obtain ⟨fd, F⟩ := T.d_is_path
  have nd := sc_is_path.nd
  refine ⟨⟨fd, fn_ok F sc_is_path (fun _ => rfl) (fun y cdv A outer s H G E hr => ⟨_, (b_expr (e_call F_check_part (hr.mono (by decide)) G_check_part K_check_part B_check_part (takes_of rfl rfl rfl rfl) (a_cons (e_var 0 rfl) (a_cons (e_var 1 rfl) a_nil))) (b_if (mid := fun s1 : Unit => [.val rpWk y.1, .val (rpT (i := rpS)) y.2.1, .val (rpT (i := rpS)) y.2.2.1, .no, .no]) (t_pw (tw_or (t_not (t_val (e_call F_is_strings (hr.mono (by decide)) G_is_strings K_is_strings B_is_strings (takes_of rfl rfl rfl rfl) (a_cons (e_var 2 rfl) a_nil)))) (tw_or1 (t_cmp eq_V (e_op mod_I (e_cb len_T T.f_len (a_cons (e_var 2 rfl) a_nil)) e_int) e_int (nomark _)))))
 (b_ret e_bool)
 (b_nil () (.cons (.refl _) (.cons (.refl _) (.cons (.refl _) (.cons (.refl _) (.cons (.refl _) .nil))))))
 (fun s1 => (b_set 3 nd (e_step (e_var 2 rfl) o_none o_none (o_some e_int))
 (fun places_2 => (b_if (mid := fun s3 : Unit => [.val rpWk y.1, .val (rpT (i := rpS)) y.2.1, .val (rpT (i := rpS)) y.2.2.1, .val (rpT (i := rpS)) places_2, .no]) (t_pw (tw_or (t_cmp nin_T (e_ix ix_T (e_var 3 rfl) e_int) (e_call F_feeders (hr.mono (by decide)) G_feeders K_feeders B_feeders (takes_of rfl rfl rfl rfl) (a_cons (e_var 0 rfl) a_nil)) rfl) (tw_or1 (t_cmp nin_T (e_ix ix_T (e_var 3 rfl) (e_un neg_I e_int)) (e_var 1 rfl) rfl))))
 (b_ret e_bool)
 (b_nil () (.cons (.refl _) (.cons (.refl _) (.cons (.refl _) (.cons (.refl _) (.cons (.refl _) .nil))))))
 (fun s3 => (b_if (mid := fun s4 : Unit => [.val rpWk y.1, .val (rpT (i := rpS)) y.2.1, .val (rpT (i := rpS)) y.2.2.1, .val (rpT (i := rpS)) places_2, .no]) (t_cmp ne_V (e_lenSetT rfl T.f_len T.f_set (e_var 3 rfl)) (e_cb len_T T.f_len (a_cons (e_var 3 rfl) a_nil)) (nomark _))
 (b_ret e_bool)
 (b_nil () (.cons (.refl _) (.cons (.refl _) (.cons (.refl _) (.cons (.refl _) (.cons (.refl _) .nil))))))
 (fun s4 => (b_for (lpS := fun s5 : Unit => [.val rpWk y.1, .val (rpT (i := rpS)) y.2.1, .val (rpT (i := rpS)) y.2.2.1, .val (rpT (i := rpS)) places_2, .no]) () (.cons (.refl _) (.cons (.refl _) (.cons (.refl _) (.cons (.refl _) (.cons (.refl _) .nil))))) (passes_of rfl) rfl (i_rng3 (by rfl) T.f_range (a_cons e_int (a_cons (e_cb len_T T.f_len (a_cons (e_var 2 rfl) a_nil)) (a_cons e_int a_nil)))) (g_name 4 nd)
 (fun x6 s5 => (b_ifE (t_not (t_val (e_call F_joins (hr.mono (by decide)) G_joins K_joins B_joins (takes_of rfl rfl rfl rfl) (a_cons (e_var 0 rfl) (a_cons (e_ix ix_T (e_var 2 rfl) (e_var 4 rfl)) (a_cons (e_ix ix_T (e_var 2 rfl) (e_op sub_I (e_var 4 rfl) e_int)) (a_cons (e_ix ix_T (e_var 2 rfl) (e_op add_I (e_var 4 rfl) e_int)) a_nil)))))))
 (b_ret e_bool)
 (b_nil () (.cons (.refl _) (.cons (.refl _) (.cons (.refl _) (.cons (.refl _) (.cons (.no _) .nil))))))))
 (fun s5 => (b_ret e_bool))))))))))))⟩) ?_, F.bindsN fun _ _ _ _ _ _ us hl => match us, hl with | [_, _, _], _ => rfl⟩, F.kp, T.g_is_path⟩
  intro y post ep h
  dsimp only [endP, seqP, endI]
  obtain ⟨⟨⟨rs, hv, e⟩, hq, hw, en, he1, he2⟩, hp⟩ := h
  obtain ⟨m, part, cert, u⟩ := y
  dsimp only at e hq hw he1 he2 ⊢
  subst e
  obtain ⟨a, ps, x⟩ := walk_x hv hw
  refine ⟨hq, if_nt fun _ => ⟨by decide, ?_⟩⟩
  have few := walk_few hv hw
  have l := walk_len hw
  refine if_dF (by omega) ?_
  have fw := x.few
  have hz := sz
  have ev : cut3 cert.l none none 2 = a :: ps.map (·.2) := by rw [cut_evens, x.e, evens_flat]
  have el : (cut3 cert.l none none 2).length = ps.length + 1 := by rw [ev, List.length_cons, List.length_map]
  refine ⟨2, rfl, ⟨by decide, by decide, by omega⟩, ?_⟩
  rw [ev] at el ⊢
  refine ⟨a, atI_nat (a :: ps.map (·.2)) 0, if_ninT x.src ⟨en, by rw [atI_last, ← flat_last, ← x.e]; exact he2, if_ninT he1 ⟨⟨x.nd, by omega⟩, fun _ => ?_⟩⟩⟩
  rw [if_neg (by simp)]
  intro _
  have lc : cert.l.length = 2 * ps.length + 1 := by rw [x.e, flat_len]
  refine ⟨ps.length, by rw [lc]; exact rgc_odd (by omega), ?_⟩
  refine forAll _ (fun i hi P q => ?_) hp
  obtain ⟨j, hj, rfl⟩ := mem_rangeC hi
  obtain ⟨l, s, t, g1, g2, g3, g4⟩ := chain_at x.ch hj
  rw [← x.e] at g1 g2 g3
  exact ⟨l, by rw [atI_of (k := 2 * j + 1) (by omega)]; exact g2, s, by rw [atI_of (k := 2 * j) (by omega)]; exact g1, t, by rw [atI_of (k := 2 * j + 2) (by omega)]; exact g3, ⟨⟨rs, hv, rfl⟩, g4⟩, q⟩
theorem sc_valve_loads : FnScope ["works", "paths", "loads", "valve", "path", "times"] ["works", "paths"] (defScope s_valve_loads) := ⟨rfl, rfl, rfl, by decide +kernel, rfl, by decide +kernel, by decide +kernel⟩
theorem ok_valve_loads (T : Txt w K mg) : Ok pw w K mg base "valve_loads" (He.fAd K ("valve_loads", none)) 1 ["works", "paths"] (spOf K rs0 (aCons rpWk (aCons (rpT (i := (rp2 (i := (rpT (i := rpS))) (j := rpI)))) aNil)) (rpDi (i := rpI)) (fun x post _ => (IsW x.1 ∧ SmallP x.2.1.l) ∧ post ⟨loadsD x.1.valves x.2.1.l⟩)) := by
  obtain ⟨fd, F⟩ := T.d_valve_loads
  have nd := sc_valve_loads.nd
  refine ⟨⟨fd, fn_ok F sc_valve_loads (fun _ => rfl) (fun y cdv A outer s H G E hr => ⟨_, (b_newD rpI 2 nd (b_for (lpS := fun s1 : (List (Key × Int)) => [.val rpWk y.1, .val (rpT (i := (rp2 (i := (rpT (i := rpS))) (j := rpI)))) y.2.1, .md rpI s1, .no, .no, .no]) [] (.cons (.refl _) (.cons (.refl _) (.cons (.refl _) (.cons (.refl _) (.cons (.refl _) (.cons (.refl _) .nil)))))) (passes_of rfl) rfl (i_tpl (e_fld (fl_valves T) (e_var 0 rfl))) (g_name 3 nd)
 (fun x2 s1 => (b_putD 2 rfl (by exact HU1 hr) (e_cb (sum_L rfl) T.f_sum (a_cons (e_lc rfl nd (blkOk_by (own := [("path", 4), ("times", 5)]) (by show blkC ["works", "paths", "loads", "valve", "path", "times"] (defScope s_valve_loads) _ _ = true; decide +kernel)) (by decide) rfl (i_tpl (e_var 1 rfl)) (fun _ _ _ _ _ => (g_tup2k (K := K) rfl rfl (g_name 4 nd) (g_name 5 nd))) (fun _ _ _ _ _ c3 => (JTs.conv (ts_one (t_cmp in_T (e_var 3 rfl) (e_step (e_var 4 rfl) (o_some e_int) o_none (o_some e_int)) rfl)) (by first | rfl | (dsimp only [Cx.blk] <;> rfl)) (by first | rfl | (dsimp only [Cx.blk] <;> rfl)))) (fun _ _ _ _ _ c3 => (e_var 5 rfl))) a_nil)) (e_var 3 rfl)
 (fun m4 k5 => (b_nil (putM s1 (Sum.inr k5) m4) (.cons (.refl _) (.cons (.refl _) (.cons (.refl _) (.cons (.no _) (.cons (.refl _) (.cons (.refl _) .nil))))))))))
 (fun s1 => (b_frzD 2 rfl (b_ret (e_var 2 rfl))))))⟩) ?_, F.bindsN fun _ _ _ _ _ _ us hl => match us, hl with | [_, _], _ => rfl⟩, F.kp, T.g_valve_loads⟩
  intro y post ep h
  dsimp only [endP, seqP, endI]
  obtain ⟨⟨⟨rs, hv, e⟩, hs, hs2⟩, hp⟩ := h
  have hz := sz
  have fv := few_valves hv
  have ev : y.1.valves = nms ["valve"] rs := by rw [e]; rfl
  intro _
  refine forP_ind (fun rest s => s.length + rest.length ≤ 8 ∧ rest.foldl (fun d v => putM d (.inr v) (load y.2.1.l v)) s = loadsD y.1.valves y.2.1.l) (fun s hi => ?_) (fun v r s next hn hi => ?_) _ _ ⟨by rw [ev]; simpa using fv, rfl⟩
  · obtain ⟨h1, h2⟩ := hi
    exact ⟨by omega, by rw [show s = _ from h2]; exact hp⟩
  · obtain ⟨h1, h2⟩ := hi
    rw [List.length_cons] at h1
    intro hl
    refine ⟨hl, lcP_eq (fun p : Tu Str × Int => decide (v ∈ odds p.1.l)) (fun p => p.2) _ (fun p hm P ep q => ⟨2, rfl, ⟨by decide, by decide, ?_⟩, ?_⟩) (fun _ _ _ P ep q => q) ⟨by omega, hn _ ⟨?_, h2⟩⟩⟩
    · rw [cut_odds, odds_len]
      have := (hs2 p hm).1
      omega
    · rw [cut_odds, any_mem]
      exact q
    · have := putM_len s (.inr v) (load y.2.1.l v)
      show (putM s (.inr v) (load y.2.1.l v)).length + r.length ≤ 8
      omega
theorem sc_list_value : FnScope ["works", "folds", "paths", "loads", "number", "above", "path", "times", "valve"] ["works", "folds", "paths"] (defScope s_list_value) := ⟨rfl, rfl, rfl, by decide +kernel, rfl, by decide +kernel, by decide +kernel⟩
theorem ok_list_value (T : Txt w K mg) : Ok pw w K mg base "list_value" (He.fAd K ("list_value", none)) 5 ["works", "folds", "paths"] (spOf K rs0 (aCons rpWk (aCons rpI (aCons (rpT (i := (rp2 (i := (rpT (i := rpS))) (j := rpI)))) aNil))) rpI (fun x post _ => (IsW x.1 ∧ (1 ≤ x.2.1 ∧ x.2.1 ≤ 4) ∧ SmallP x.2.2.1.l) ∧ post (valueOf x.1 x.2.1 x.2.2.1.l))) := by
  obtain ⟨fd_check_folds, F_check_folds, B_check_folds⟩ := (ok_check_folds (w := w) (base := base) T).ex
  have K_check_folds := (ok_check_folds (w := w) (base := base) T).kp
  have G_check_folds := (ok_check_folds (w := w) (base := base) T).gm
  obtain ⟨fd_valve_loads, F_valve_loads, B_valve_loads⟩ := (ok_valve_loads (w := w) (base := base) T).ex
  have K_valve_loads := (ok_valve_loads (w := w) (base := base) T).kp
  have G_valve_loads := (ok_valve_loads (w := w) (base := base) T).gm
  obtain ⟨fd_valve_cost, F_valve_cost, B_valve_cost⟩ := (ok_valve_cost (w := w) (base := base) T).ex
  have K_valve_cost := (ok_valve_cost (w := w) (base := base) T).kp
  have G_valve_cost := (ok_valve_cost (w := w) (base := base) T).gm
  obtain ⟨fd, F⟩ := T.d_list_value
  have nd := sc_list_value.nd
  refine ⟨⟨fd, fn_ok F sc_list_value (fun _ => rfl) (fun y cdv A outer s H G E hr => ⟨_, (b_expr (e_call F_check_folds (hr.mono (by decide)) G_check_folds K_check_folds B_check_folds (takes_of rfl rfl rfl rfl) (a_cons (e_var 1 rfl) a_nil)) (b_set 3 nd (e_call F_valve_loads (hr.mono (by decide)) G_valve_loads K_valve_loads B_valve_loads (takes_of rfl rfl rfl rfl) (a_cons (e_var 0 rfl) (a_cons (e_var 2 rfl) a_nil)))
 (fun loads_1 => (b_set 4 nd (e_cb (sum_L rfl) T.f_sum (a_cons (e_lc rfl nd (blkOk_by (own := [("path", 6), ("times", 7)]) (by show blkC ["works", "folds", "paths", "loads", "number", "above", "path", "times", "valve"] (defScope s_list_value) _ _ = true; decide +kernel)) (by decide) rfl (i_tpl (e_var 2 rfl)) (fun _ _ _ _ _ => (g_tup2k (K := K) rfl rfl (g_name 6 nd) (g_name 7 nd))) (fun _ _ _ _ _ c3 => ts_nil) (fun _ _ _ _ _ c3 => (e_var 7 rfl))) a_nil))
 (fun number_2 => (b_set 5 nd (e_cb (sum_L rfl) T.f_sum (a_cons (e_lc rfl nd (blkOk_by (own := [("valve", 8)]) (by show blkC ["works", "folds", "paths", "loads", "number", "above", "path", "times", "valve"] (defScope s_list_value) _ _ = true; decide +kernel)) (by decide) rfl (i_tpl (e_fld (fl_valves T) (e_var 0 rfl))) (fun _ _ _ _ _ => (g_name 8 nd)) (fun _ _ _ _ _ c5 => ts_nil) (fun _ _ _ _ _ c5 => (JE.conv (e_cb (max_I rfl) T.f_max (a_cons e_int (a_cons (e_op sub_I (e_get (by exact HU1 hr) (e_var 3 rfl) (e_var 8 rfl)) (e_call F_valve_cost (hr.mono (by decide)) G_valve_cost K_valve_cost B_valve_cost takes0 (a_cons (e_var 0 rfl) (a_cons (e_var 8 rfl) a_nil)))) a_nil))) (by first | rfl | (dsimp only [Cx.blk] <;> rfl)) (by first | rfl | (dsimp only [Cx.blk] <;> rfl))))) a_nil))
 (fun above_4 => (b_ret (e_op sub_I (e_op mul_I (e_var 1 rfl) (e_var 4 rfl)) (e_var 5 rfl))))))))))⟩) ?_, F.bindsN fun _ _ _ _ _ _ us hl => match us, hl with | [_, _, _], _ => rfl⟩, F.kp, T.g_list_value⟩
  intro y post ep h
  dsimp only [endP, seqP, endI]
  obtain ⟨⟨hw, hf, hs⟩, hp⟩ := h
  refine ⟨hf, ⟨hw, hs⟩, fun hl => ⟨hl, lcAll (·.2) _ (fun _ _ _ _ p => p) (fun _ _ _ _ p => p) fun hz => ⟨hz, ?_⟩⟩⟩
  refine lcAll (fun v => max 0 (load y.2.2.1.l v - costAt y.1 v)) _ (fun _ _ _ _ p => p) (fun v hv P ep p => ⟨load y.2.2.1.l v, loadsD_at hv, ⟨hw, hv⟩, p⟩) ⟨.inl ⟨by omega, by omega⟩, hp⟩
theorem sc_cost_of : FnScope ["works", "valves", "valve"] ["works", "valves"] (defScope s_cost_of) := ⟨rfl, rfl, rfl, by decide +kernel, rfl, by decide +kernel, by decide +kernel⟩
theorem ok_cost_of (T : Txt w K mg) : OkV pw w K mg base "cost_of" (He.fAd K ("cost_of", none)) 5 (spOf K rs0 (aCons rpWk (aCons (rpT (i := rpS)) aNil)) rpI (fun x post _ => (IsW x.1 ∧ ∀ n ∈ x.2.1.l, n ∈ x.1.valves) ∧ post (costOf x.1 x.2.1.l))) := by
  obtain ⟨fd_check_valves, F_check_valves, B_check_valves⟩ := (ok_check_valves (w := w) (base := base) T).ex
  have K_check_valves := (ok_check_valves (w := w) (base := base) T).kp
  have G_check_valves := (ok_check_valves (w := w) (base := base) T).gm
  obtain ⟨fd_valve_cost, F_valve_cost, B_valve_cost⟩ := (ok_valve_cost (w := w) (base := base) T).ex
  have K_valve_cost := (ok_valve_cost (w := w) (base := base) T).kp
  have G_valve_cost := (ok_valve_cost (w := w) (base := base) T).gm
  obtain ⟨fd, F⟩ := T.d_cost_of
  have nd := sc_cost_of.nd
  refine ⟨fn_okV F sc_cost_of (fun _ _ _ _ _ _ _ => rfl) (fun _ _ _ _ _ _ _ _ _ => rfl) (fun _ => rfl) (fun y cdv A outer s H G E hr => ⟨_, (b_expr (e_call F_check_valves (hr.mono (by decide)) G_check_valves K_check_valves B_check_valves (takes_of rfl rfl rfl rfl) (a_cons (e_var 0 rfl) (a_cons (e_var 1 rfl) a_nil))) (b_ret (e_cb (sum_L rfl) T.f_sum (a_cons (e_lc rfl nd (blkOk_by (own := [("valve", 2)]) (by show blkC ["works", "valves", "valve"] (defScope s_cost_of) _ _ = true; decide +kernel)) (by decide) rfl (i_tpl (e_fld (fl_valves T) (e_var 0 rfl))) (fun _ _ _ _ _ => (g_name 2 nd)) (fun _ _ _ _ _ c1 => (JTs.conv (ts_one (t_cmp in_T (e_var 2 rfl) (e_var 1 rfl) rfl)) (by first | rfl | (dsimp only [Cx.blk] <;> rfl)) (by first | rfl | (dsimp only [Cx.blk] <;> rfl)))) (fun _ _ _ _ _ c1 => (JE.conv (e_call F_valve_cost (hr.mono (by decide)) G_valve_cost K_valve_cost B_valve_cost takes0 (a_cons (e_var 0 rfl) (a_cons (e_var 2 rfl) a_nil))) (by first | rfl | (dsimp only [Cx.blk] <;> rfl)) (by first | rfl | (dsimp only [Cx.blk] <;> rfl))))) a_nil))))⟩) ?_, F.kp, T.g_cost_of⟩
  intro y post ep h
  dsimp only [endP, seqP, endI]
  obtain ⟨⟨hw, hs⟩, hp⟩ := h
  exact ⟨hs, fun hl => ⟨hl, lcP_eq (fun v => decide (v ∈ y.2.1.l)) (costAt y.1) _ (fun v _ P ep p => by rw [any_mem]; exact p) (fun v hv _ P ep p => ⟨⟨hw, hv⟩, p⟩) hp⟩⟩
theorem sc_shows_open : FnScope ["works", "part", "folds", "certificate"] ["works", "part", "folds", "certificate"] (defScope s_shows_open) := ⟨rfl, rfl, rfl, by decide +kernel, rfl, by decide +kernel, by decide +kernel⟩
theorem ok_shows_open (T : Txt w K mg) : Ok pw w K mg base "shows_open" (He.fAd K ("shows_open", none)) 4 ["works", "part", "folds", "certificate"] (spOf K rs0 (aCons rpWk (aCons (rpT (i := rpS)) (aCons rpI (aCons (rpT (i := rpS)) aNil)))) rpB (fun x post _ => (IsW x.1 ∧ PartOk x.1 x.2.1.l ∧ PathOk x.1 x.2.1.l x.2.2.2.1.l ∧ (1 ≤ x.2.2.1 ∧ x.2.2.1 ≤ 4)) ∧ post (decide ((vcnt x.2.2.2.1.l x.1.valves : Int) < x.2.2.1)))) := by
  obtain ⟨fd_check_part, F_check_part, B_check_part⟩ := (ok_check_part (w := w) (base := base) T).ex
  have K_check_part := (ok_check_part (w := w) (base := base) T).kp
  have G_check_part := (ok_check_part (w := w) (base := base) T).gm
  obtain ⟨fd_check_folds, F_check_folds, B_check_folds⟩ := (ok_check_folds (w := w) (base := base) T).ex
  have K_check_folds := (ok_check_folds (w := w) (base := base) T).kp
  have G_check_folds := (ok_check_folds (w := w) (base := base) T).gm
  obtain ⟨fd_is_path, F_is_path, B_is_path⟩ := (ok_is_path (w := w) (base := base) T).ex
  have K_is_path := (ok_is_path (w := w) (base := base) T).kp
  have G_is_path := (ok_is_path (w := w) (base := base) T).gm
  obtain ⟨fd_valve_count, F_valve_count, B_valve_count⟩ := (ok_valve_count (w := w) (base := base) T).ex
  have K_valve_count := (ok_valve_count (w := w) (base := base) T).kp
  have G_valve_count := (ok_valve_count (w := w) (base := base) T).gm
  obtain ⟨fd, F⟩ := T.d_shows_open
  have nd := sc_shows_open.nd
  refine ⟨⟨fd, fn_ok F sc_shows_open (fun _ => rfl) (fun y cdv A outer s H G E hr => ⟨_, (b_expr (e_call F_check_part (hr.mono (by decide)) G_check_part K_check_part B_check_part (takes_of rfl rfl rfl rfl) (a_cons (e_var 0 rfl) (a_cons (e_var 1 rfl) a_nil))) (b_expr (e_call F_check_folds (hr.mono (by decide)) G_check_folds K_check_folds B_check_folds (takes_of rfl rfl rfl rfl) (a_cons (e_var 2 rfl) a_nil)) (b_ret (e_and (e_call F_is_path (hr.mono (by decide)) G_is_path K_is_path B_is_path (takes_of rfl rfl rfl rfl) (a_cons (e_var 0 rfl) (a_cons (e_var 1 rfl) (a_cons (e_var 3 rfl) a_nil)))) (e_one (e_cmp lt_I (e_call F_valve_count (hr.mono (by decide)) G_valve_count K_valve_count B_valve_count (takes_of rfl rfl rfl rfl) (a_cons (e_var 3 rfl) (a_cons (e_fld (fl_valves T) (e_var 0 rfl)) a_nil))) (e_var 2 rfl) (nomark _)))))))⟩) ?_, F.bindsN fun _ _ _ _ _ _ us hl => match us, hl with | [_, _, _, _], _ => rfl⟩, F.kp, T.g_shows_open⟩
  intro y post ep h
  dsimp only [endP, seqP, endI]
  obtain ⟨⟨hw, hq, hx, hf⟩, hp⟩ := h
  refine ⟨hq, hf, ⟨hw, hq, hx⟩, if_t ⟨?_, hp⟩⟩
  obtain ⟨rs, hv, e⟩ := hw
  rw [e] at hx
  have := walk_few hv hx.1
  omega
theorem sc_law_take : FnScope ["bag", "many", "cell", "got", "first", "second", "third"] ["bag", "many"] (defScope s_law_take) := ⟨rfl, rfl, rfl, by decide +kernel, rfl, by decide +kernel, by decide +kernel⟩
theorem ok_law_take (T : Txt w K mg) : Ok pw w K mg base "_law_take" (He.fAd K ("_law_take", none)) 1 ["bag", "many"] (spR K (rsH 4) (fun q => (aRf q (aCons rpI aNil))) rpI (fun x post _ => (0 < x.1 ∧ x.1 < 1073741824) ∧ ∀ r : Int, 0 ≤ r → r < x.1 → post r)) := by
  obtain ⟨fd, F⟩ := T.d_law_take
  have nd := sc_law_take.nd
  refine ⟨⟨fd, fn_okR F sc_law_take (fun _ _ => rfl) (fun q y cdv A outer s H G E hr => ⟨_, (b_bhSet (k := 2) 0 rfl rfl (by decide) (by decide) (e_op add_I (e_bhI (k := 2) 0 rfl rfl (by decide)) e_int) (b_bhTake (many := 0) (ρ := [.rf q, .val rpI y.1, .no, .no, .no, .no, .no]) (N := 2) (mid := fun _ : Unit => [.rf q, .val rpI y.1, .no, .no, .no, .no, .no]) rfl rfl (by show 2 < 7; decide) (fun cell1 => (b_ifE (t_cmp ge_I (e_var 2 rfl) (e_op pow_I e_int e_int) (nomark _))
 (b_bhSet (k := 1) 0 rfl rfl (by decide) (by decide) (e_var 2 rfl) (b_nil () (.cons (.refl _) (.cons (.refl _) (.cons (.no _) (.cons (.refl _) (.cons (.refl _) (.cons (.refl _) (.cons (.refl _) .nil)))))))))
 (b_bhSet (k := 3) 0 rfl rfl (by decide) (by decide) (e_op mod_I (e_ct int_I T.f_int (a_cons (e_op add_I (e_op mul_I (e_bhI (k := 3) 0 rfl rfl (by decide)) e_int) (e_var 2 rfl)) a_nil)) e_int) (b_nil () (.cons (.refl _) (.cons (.refl _) (.cons (.no _) (.cons (.refl _) (.cons (.refl _) (.cons (.refl _) (.cons (.refl _) .nil))))))))))) () (.cons (.refl _) (.cons (.refl _) (.cons (.refl _) (.cons (.refl _) (.cons (.refl _) (.cons (.refl _) (.cons (.refl _) .nil))))))) (by exact fun t1 h => (ps_if (pw_and (pt_cmpR op_eq (pe_ix ix_list (pe_var rfl (.inl rfl) (by decide) (by decide)) pe_int (fun _ _ => rfl)) pe_int (nomark _)) (pw_and1 (pt_cmpR op_lt (pe_ix ix_list (pe_var rfl (.inl rfl) (by decide) (by decide)) pe_int (fun _ _ => rfl)) (pe_callB call_len_seq (by rfl) T.f_len (by decide +kernel) (pa_cons (pe_ix ix_list (pe_var rfl (.inl rfl) (by decide) (by decide)) pe_int (fun _ _ => rfl)) pa_nil) (by decide) (by decide)) (nomark _)))).pt (pss_cons (ps_set nd rfl (.inl rfl) (pe_ix ix_list (pe_ix ix_list (pe_var rfl (.inl rfl) (by decide) (by decide)) pe_int (fun _ _ => rfl)) (pe_ix ix_list (pe_var rfl (.inl rfl) (by decide) (by decide)) pe_int (fun _ _ => rfl)) (fun _ _ => rfl))) (pss_cons (ps_asg (pe_op op_add (pe_ix ix_list (pe_var rfl (.inl rfl) (by decide) (by decide)) pe_int (fun _ _ => rfl)) pe_int) (pg_sub (pe_var rfl (.inl rfl) (by decide) (by decide)) pe_int set_list)) h)) pss_nil))
 (fun _ => (b_if (mid := fun s2 : Unit => [.rf q, .val rpI y.1, .no, .no, .no, .no, .no]) (t_cmp gt_I (e_bhI (k := 1) 0 rfl rfl (by decide)) e_int (nomark _))
 (b_set 3 nd (e_op mod_I (e_ct int_I T.f_int (a_cons (e_bhI (k := 1) 0 rfl rfl (by decide)) a_nil)) (e_var 1 rfl))
 (fun got_3 => (b_bhSet (k := 1) 0 rfl rfl (by decide) (by decide) (e_op fdiv_I (e_bhI (k := 1) 0 rfl rfl (by decide)) (e_var 1 rfl)) (b_ret (e_var 3 rfl)))))
 (b_nil () (.cons (.refl _) (.cons (.refl _) (.cons (.refl _) (.cons (.refl _) (.cons (.refl _) (.cons (.refl _) (.cons (.refl _) .nil))))))))
 (fun s2 => (b_set 4 nd (e_op mod_I (e_ct int_I T.f_int (a_cons (e_op add_I (e_op add_I (e_op mul_I (e_bhI (k := 3) 0 rfl rfl (by decide)) e_int) (e_op mul_I (e_bhI (k := 2) 0 rfl rfl (by decide)) e_int)) e_int) a_nil)) e_int)
 (fun first_4 => (b_set 5 nd (e_op mod_I (e_ct int_I T.f_int (a_cons (e_op add_I (e_op mul_I (e_var 4 rfl) (e_op add_I (e_op fdiv_I (e_var 4 rfl) e_int) e_int)) (e_bhI (k := 2) 0 rfl rfl (by decide))) a_nil)) e_int)
 (fun second_5 => (b_set 6 nd (e_op mod_I (e_ct int_I T.f_int (a_cons (e_op add_I (e_op mul_I (e_var 5 rfl) (e_op add_I (e_op fdiv_I (e_var 5 rfl) e_int) e_int)) e_int) a_nil)) e_int)
 (fun third_6 => (b_ret (e_op mod_I (e_op fdiv_I (e_var 6 rfl) e_int) (e_var 1 rfl))))))))))))))⟩) ?_, F.bindsN fun _ _ _ _ _ _ us hl => match us, hl with | [_, _], _ => rfl⟩, F.kp, T.g_law_take⟩
  intro y post ep h
  dsimp only [endP, seqP, endI]
  obtain ⟨h1, h2⟩ := h
  have fin : ∀ a : Int, post (a % y.1) := fun a => h2 _ (Int.emod_nonneg _ (by omega)) (Int.emod_lt_of_pos _ h1.1)
  have cm : ∀ n k : Int, 0 ≤ k → k < 100000000000 → CMul n k := fun n k k1 k2 => .inr ⟨by omega, by omega⟩
  repeat' (first | intro _ | refine And.intro ?_ ?_ | split)
  all_goals first
    | exact fin _
    | exact h1.1
    | exact h1.2
    | decide
    | exact ⟨by decide, by decide⟩
    | exact ⟨by decide, by decide, by decide⟩
    | exact ⟨h1.1, h1.2⟩
    | exact cm _ _ (by decide) (by decide)
    | exact .inl ⟨by omega, by omega⟩
theorem sc_law_stem : FnScope ["bag", "stem", "k"] ["bag"] (defScope s_law_stem) := ⟨rfl, rfl, rfl, by decide +kernel, rfl, by decide +kernel, by decide +kernel⟩
theorem ok_law_stem (T : Txt w K mg) : Ok pw w K mg base "_law_stem" (He.fAd K ("_law_stem", none)) 2 ["bag"] (spR K (rsH 4) (fun q => (aRf q aNil)) rpS (fun _ post _ => ∀ s : Str, StemOk s → post s)) := by
  obtain ⟨fd_law_take, F_law_take, B_law_take⟩ := (ok_law_take (w := w) (base := base) T).ex
  have K_law_take := (ok_law_take (w := w) (base := base) T).kp
  have G_law_take := (ok_law_take (w := w) (base := base) T).gm
  obtain ⟨fd, F⟩ := T.d_law_stem
  have nd := sc_law_stem.nd
  refine ⟨⟨fd, fn_okR F sc_law_stem (fun _ _ => rfl) (fun q y cdv A outer s H G E hr => ⟨_, (b_set 1 nd e_str
 (fun stem_1 => (b_if (mid := fun s2 : Str => [.rf q, .val rpS s2, .no]) (t_cmp eq_V (e_callR rfl F_law_take (hr.mono (by decide)) G_law_take K_law_take B_law_take (takes_of rfl rfl rfl rfl) (a_rf 0 rfl (a_cons e_int a_nil))) e_int (nomark _))
 (b_for (lpS := fun s3 : Str => [.rf q, .val rpS s3, .no]) stem_1 (.cons (.refl _) (.cons (.refl _) (.cons (.refl _) .nil))) (passes_of rfl) rfl (i_rng1 (by rfl) T.f_range (a_cons (e_op add_I e_int (e_callR rfl F_law_take (hr.mono (by decide)) G_law_take K_law_take B_law_take (takes_of rfl rfl rfl rfl) (a_rf 0 rfl (a_cons e_int a_nil)))) a_nil)) (g_name 2 nd)
 (fun x4 s3 => (b_set 1 nd (e_op add_S (e_var 1 rfl) (e_ix ix_S e_str (e_callR rfl F_law_take (hr.mono (by decide)) G_law_take K_law_take B_law_take (takes_of rfl rfl rfl rfl) (a_rf 0 rfl (a_cons e_int a_nil)))))
 (fun stem_5 => (b_nil stem_5 (.cons (.refl _) (.cons (.refl _) (.cons (.no _) .nil)))))))
 (fun s3 => (b_nil s3 (.cons (.refl _) (.cons (.refl _) (.cons (.refl _) .nil))))))
 (b_nil stem_1 (.cons (.refl _) (.cons (.refl _) (.cons (.refl _) .nil))))
 (fun s2 => (b_ret (e_var 1 rfl))))))⟩) ?_, F.bindsN fun _ _ _ _ _ _ us hl => match us, hl with | [_], _ => rfl⟩, F.kp, T.g_law_stem⟩
  intro y post ep h
  dsimp only [endP, seqP, endI]
  refine ⟨⟨by decide, by decide⟩, fun r _ _ => if_dd (fun _ => ⟨⟨by decide, by decide⟩, fun r r0 r1 => ⟨⟨by omega, by omega⟩, ?_⟩⟩) fun _ => h _ stem_nil⟩
  refine forR_ind (fun k s => s.cps.size = k ∧ ∀ c ∈ s.cps.toList, lowC c) (fun s hi => h s ⟨by omega, hi.2⟩) (fun k s next hk hn hi => ?_) _ ⟨rfl, stem_nil.2⟩
  refine ⟨⟨by decide, by decide⟩, fun r r0 r1 => ⟨len_lit (by decide), ex_at r0 (by rw [show ((Str.ofString "abcdefghijklmnopqrstuvwxyz").cps.toList.length : Int) = 26 by decide +kernel]; exact r1) fun c hc _ => ⟨?_, hn _ ⟨?_, fun d hd => ?_⟩⟩⟩⟩
  · have hz := sz
    rw [str_len, str_len, ← sz_list, ← sz_list, hi.1]
    show k + 1 ≤ sizeLine
    omega
  · rw [sz_list, cps_app, List.length_append, ← sz_list, hi.1]
    rfl
  · rw [cps_app, List.mem_append] at hd
    rcases hd with hd | hd
    · exact hi.2 d hd
    · rw [List.mem_singleton.mp hd]
      exact (lowA c).mp hc
theorem sc_law_name : FnScope ["bag", "taken", "stem", "letters", "at", "name", "k", "spare", "one"] ["bag", "taken", "stem"] (defScope s_law_name) := ⟨rfl, rfl, rfl, by decide +kernel, rfl, by decide +kernel, by decide +kernel⟩
theorem ok_law_name (T : Txt w K mg) : Ok pw w K mg base "_law_name" (He.fAd K ("_law_name", none)) 2 ["bag", "taken", "stem"] (spR K (rsH 4) (fun q => (aRf q (aCons (rpL (i := rpS)) (aCons rpS aNil)))) rpS (fun x post _ => (StemOk x.2.1 ∧ x.1.length ≤ 60) ∧ ∀ n : Str, NameOk n → n ∉ x.1 → post n)) := by
  obtain ⟨fd_law_take, F_law_take, B_law_take⟩ := (ok_law_take (w := w) (base := base) T).ex
  have K_law_take := (ok_law_take (w := w) (base := base) T).kp
  have G_law_take := (ok_law_take (w := w) (base := base) T).gm
  obtain ⟨fd, F⟩ := T.d_law_name
  have nd := sc_law_name.nd
  refine ⟨⟨fd, fn_okR F sc_law_name (fun _ _ => rfl) (fun q y cdv A outer s H G E hr => ⟨_, (b_set 3 nd e_str
 (fun letters_1 => (b_if (mid := fun s2 : Str => [.rf q, .val (rpL (i := rpS)) y.1, .val rpS y.2.1, .val rpS letters_1, .no, .val rpS s2, .no, .no, .no]) (t_cmp gt_I (e_cb len_S T.f_len (a_cons (e_var 2 rfl) a_nil)) e_int (nomark _))
 (b_set 4 nd (e_op add_I e_int (e_callR rfl F_law_take (hr.mono (by decide)) G_law_take K_law_take B_law_take (takes_of rfl rfl rfl rfl) (a_rf 0 rfl (a_cons (e_cb len_S T.f_len (a_cons (e_var 2 rfl) a_nil)) a_nil))))
 (fun at_3 => (b_set 5 nd (e_op add_S (e_op add_S (e_op add_S (e_sl sl_S (e_var 2 rfl) o_none (o_some (e_var 4 rfl))) (e_ix ix_S (e_var 3 rfl) (e_callR rfl F_law_take (hr.mono (by decide)) G_law_take K_law_take B_law_take (takes_of rfl rfl rfl rfl) (a_rf 0 rfl (a_cons e_int a_nil))))) (e_ix ix_S (e_var 3 rfl) (e_callR rfl F_law_take (hr.mono (by decide)) G_law_take K_law_take B_law_take (takes_of rfl rfl rfl rfl) (a_rf 0 rfl (a_cons e_int a_nil))))) (e_sl sl_S (e_var 2 rfl) (o_some (e_var 4 rfl)) o_none))
 (fun name_4 => (b_nil name_4 (.cons (.refl _) (.cons (.refl _) (.cons (.refl _) (.cons (.refl _) (.cons (.no _) (.cons (.refl _) (.cons (.refl _) (.cons (.refl _) (.cons (.refl _) .nil))))))))))))))
 (b_set 5 nd (e_ix ix_S (e_var 3 rfl) (e_callR rfl F_law_take (hr.mono (by decide)) G_law_take K_law_take B_law_take (takes_of rfl rfl rfl rfl) (a_rf 0 rfl (a_cons e_int a_nil))))
 (fun name_5 => (b_for (lpS := fun s6 : Str => [.rf q, .val (rpL (i := rpS)) y.1, .val rpS y.2.1, .val rpS letters_1, .no, .val rpS s6, .no, .no, .no]) name_5 (.cons (.refl _) (.cons (.refl _) (.cons (.refl _) (.cons (.refl _) (.cons (.refl _) (.cons (.refl _) (.cons (.refl _) (.cons (.refl _) (.cons (.refl _) .nil))))))))) (passes_of rfl) rfl (i_rng1 (by rfl) T.f_range (a_cons (e_callR rfl F_law_take (hr.mono (by decide)) G_law_take K_law_take B_law_take (takes_of rfl rfl rfl rfl) (a_rf 0 rfl (a_cons e_int a_nil))) a_nil)) (g_name 6 nd)
 (fun x7 s6 => (b_set 5 nd (e_op add_S (e_var 5 rfl) (e_ix ix_S (e_var 3 rfl) (e_callR rfl F_law_take (hr.mono (by decide)) G_law_take K_law_take B_law_take (takes_of rfl rfl rfl rfl) (a_rf 0 rfl (a_cons e_int a_nil)))))
 (fun name_8 => (b_nil name_8 (.cons (.refl _) (.cons (.refl _) (.cons (.refl _) (.cons (.refl _) (.cons (.refl _) (.cons (.refl _) (.cons (.no _) (.cons (.refl _) (.cons (.refl _) .nil)))))))))))))
 (fun s6 => (b_nil s6 (.cons (.refl _) (.cons (.refl _) (.cons (.refl _) (.cons (.refl _) (.cons (.refl _) (.cons (.refl _) (.cons (.refl _) (.cons (.refl _) (.cons (.refl _) .nil))))))))))))))
 (fun s2 => (b_if (mid := fun s9 : Str => [.rf q, .val (rpL (i := rpS)) y.1, .val rpS y.2.1, .val rpS letters_1, .no, .val rpS s9, .no, .no, .no]) (t_pw (tw_or (t_cmp in_L (e_var 5 rfl) (e_var 1 rfl) rfl) (tw_or1 (t_cmp in_T (e_var 5 rfl) (e_tupT (a_cons e_str (a_cons e_str (a_cons e_str (a_cons e_str a_nil)))) (.cons (.cons (.cons (.cons .nil))))) rfl))))
 (b_setLc 7 rfl nd (blkOk_by (own := [("k", 6)]) (by show blkC ["bag", "taken", "stem", "letters", "at", "name", "k", "spare", "one"] (defScope s_law_name) _ _ = true; decide +kernel)) (by decide) rfl (i_rng1 (by rfl) T.f_range (a_cons e_int a_nil)) (fun _ _ _ _ _ => (g_name 6 nd)) (fun _ _ _ _ _ c11 => ts_nil) (fun _ _ _ _ _ c11 => (JE.conv (e_op add_S e_str (e_ct str_I T.f_str (a_cons (e_var 6 rfl) a_nil))) (by first | rfl | (dsimp only [Cx.blk] <;> rfl)) (by first | rfl | (dsimp only [Cx.blk] <;> rfl))))
 (fun spare_10 => (b_set 5 nd (e_ix ix_L (e_lc rfl nd (blkOk_by (own := [("one", 8)]) (by show blkC ["bag", "taken", "stem", "letters", "at", "name", "k", "spare", "one"] (defScope s_law_name) _ _ = true; decide +kernel)) (by decide) rfl (i_lst (e_var 7 rfl)) (fun _ _ _ _ _ => (g_name 8 nd)) (fun _ _ _ _ _ c14 => (JTs.conv (ts_one (t_cmp nin_L (e_var 8 rfl) (e_var 1 rfl) rfl)) (by first | rfl | (dsimp only [Cx.blk] <;> rfl)) (by first | rfl | (dsimp only [Cx.blk] <;> rfl)))) (fun _ _ _ _ _ c14 => (e_var 8 rfl))) e_int)
 (fun name_12 => (b_nil name_12 (.cons (.refl _) (.cons (.refl _) (.cons (.refl _) (.cons (.refl _) (.cons (.refl _) (.cons (.refl _) (.cons (.refl _) (.cons (.no _) (.cons (.refl _) .nil))))))))))))))
 (b_nil s2 (.cons (.refl _) (.cons (.refl _) (.cons (.refl _) (.cons (.refl _) (.cons (.refl _) (.cons (.refl _) (.cons (.refl _) (.cons (.refl _) (.cons (.refl _) .nil))))))))))
 (fun s9 => (b_ret (e_var 5 rfl))))))))⟩) ?_, F.bindsN fun _ _ _ _ _ _ us hl => match us, hl with | [_, _, _], _ => rfl⟩, F.kp, T.g_law_name⟩
  intro y post ep h
  dsimp only [endP, seqP, endI]
  obtain ⟨⟨hs, ht⟩, hp⟩ := h
  have hz := sz
  have hs1 := hs.1
  rw [sz_list, ← str_len] at hs1
  have aln : ((Str.ofString "abcdefghijklmnopqrstuvwxyz0123456789").cps.toList.length : Int) = 36 := by decide +kernel
  have sp : (-(2 : Int) ^ 62 ≤ 70 ∧ (70 : Int) < 2 ^ 62) ∧ (rangeI 0 (Int.toNat 70)).length ≤ sizeLine ∧ lcP (fun (c11 : Int) post ep => post true) (fun (c11 : Int) post ep => c11.natAbs.log2 < 1920 ∧ (Str.ofString "x").length + (Str.ofString (toString c11)).length ≤ sizeLine ∧ post (Str.ofString "x" ++ Str.ofString (toString c11)))
      (fun m => m.length ≤ sizeLine → m.length ≤ sizeLine ∧ lcP (fun (c14 : Str) post ep => post !(y.1.any fun m => m == c14)) (fun c14 post x => post c14) (fun x => ∃ m, atI x 0 = some m ∧ post m) m []) (rangeI 0 (Int.toNat 70)) [] := by
    refine ⟨⟨by decide, by decide⟩, by rw [len_rangeI]; exact len_lit (by decide), ?_⟩
    refine lcAll (fun k : Int => ("x" : Str) ++ Str.ofString (toString k)) _ (fun _ _ _ _ p => p) (fun k hk P ep p => ?_) (fun hl => ⟨hl, ?_⟩)
    · have small : ∀ k ∈ rangeI 0 (Int.toNat 70), k.natAbs.log2 < 1920 ∧ (Str.ofString "x").length + (Str.ofString (toString k)).length ≤ 1000 := by decide +kernel
      obtain ⟨a, b⟩ := small k hk
      exact ⟨a, by omega, p⟩
    · obtain ⟨n, h1, h2, h3⟩ := spare_ok ht
      refine lcP_eq (fun s => !(y.1.any fun m => m == s)) (fun s => s) _ (fun _ _ _ _ p => p) (fun _ _ _ _ _ p => p) ?_
      rw [List.map_id']
      exact ⟨n, h1, hp n h2 h3⟩
  refine ⟨by omega, if_dd (fun h0 => ⟨by omega, ⟨h0, by omega⟩, fun r r0 r1 => ⟨by omega, ⟨by decide, by decide⟩, fun a a0 a1 => ⟨len_lit (by decide), ex_at a0 (by rw [aln]; exact a1) fun ca hca _ => ⟨?_, ⟨by decide, by decide⟩, fun b b0 b1 => ⟨len_lit (by decide), ex_at b0 (by rw [aln]; exact b1) fun cb hcb _ => ⟨?_, by omega, ?_, ?_⟩⟩⟩⟩⟩⟩) fun h0 => ⟨⟨by decide, by decide⟩, fun r r0 r1 => ⟨len_lit (by decide), ex_at r0 (by rw [aln]; omega) fun c hc hc2 => ⟨⟨by decide, by decide⟩, fun k k0 k1 => ⟨⟨by omega, by omega⟩, ?_⟩⟩⟩⟩⟩
  · obtain ⟨j, rfl⟩ := Int.eq_ofNat_of_zero_le r0
    have e : (1 + (j : Int)) = ((j + 1 : Nat) : Int) := by omega
    rw [e, str_len, str_len, cut_lo (by omega), List.length_take, cps_one]
    show min _ _ + 1 ≤ sizeLine
    rw [str_len] at hs1
    omega
  · obtain ⟨j, rfl⟩ := Int.eq_ofNat_of_zero_le r0
    have e : (1 + (j : Int)) = ((j + 1 : Nat) : Int) := by omega
    rw [e, str_len, str_len, cps_app, cut_lo (by omega), List.length_append, List.length_take, cps_one]
    show min _ _ + 1 + 1 ≤ sizeLine
    rw [str_len] at hs1
    omega
  · obtain ⟨j, rfl⟩ := Int.eq_ofNat_of_zero_le r0
    have e : (1 + (j : Int)) = ((j + 1 : Nat) : Int) := by omega
    rw [e, str_len, str_len, cps_app, cps_app, cut_lo (by omega), cut_hi (by omega), List.length_append, List.length_append, List.length_take, List.length_drop, cps_one]
    show min _ _ + 1 + 1 + _ ≤ sizeLine
    rw [str_len] at hs1
    omega
  · obtain ⟨j, rfl⟩ := Int.eq_ofNat_of_zero_le r0
    have e : (1 + (j : Int)) = ((j + 1 : Nat) : Int) := by omega
    rw [e]
    exact name_fin sp (stem_name hs (by omega) (by omega) ((alnA ca).mp hca) ((alnA cb).mp hcb)) hp
  · refine forR_ind (fun k s => s.cps.toList.length = k + 1 ∧ (∃ c r, s.cps.toList = c :: r ∧ lowC c) ∧ ∀ c ∈ s.cps.toList, lowC c ∨ digC c) (fun s hi => ?_) (fun k' s next hk hn hi => ?_) _ ⟨rfl, ⟨c, [], rfl, aln_get (by omega) hc2⟩, fun d hd => (alnA d).mp (by rw [cps_one, List.mem_singleton] at hd; rw [hd]; exact hc)⟩
    · refine name_fin sp (fun nb => ⟨?_, hi.2.1, hi.2.2, nb⟩) hp
      rw [sz_list, hi.1]
      omega
    · refine ⟨⟨by decide, by decide⟩, fun b b0 b1 => ⟨len_lit (by decide), ex_at b0 (by rw [aln]; exact b1) fun cb hcb _ => ⟨?_, hn _ ⟨?_, ?_, ?_⟩⟩⟩⟩
      · rw [str_len, str_len, hi.1, cps_one]
        show k' + 1 + 1 ≤ sizeLine
        omega
      · rw [cps_app, List.length_append, hi.1]
        rfl
      · obtain ⟨d, r, e, l⟩ := hi.2.1
        exact ⟨d, r ++ [cb], by rw [cps_app, e]; rfl, l⟩
      · intro d hd
        rw [cps_app, List.mem_append] at hd
        rcases hd with hd | hd
        · exact hi.2.2 d hd
        · rw [List.mem_singleton.mp hd]
          exact (alnA cb).mp hcb
theorem sc_law_names : FnScope ["rows", "kinds", "row"] ["rows", "kinds"] (defScope s_law_names) := ⟨rfl, rfl, rfl, by decide +kernel, rfl, by decide +kernel, by decide +kernel⟩
theorem ok_law_names (T : Txt w K mg) : Ok pw w K mg base "_law_names" (He.fAd K ("_law_names", none)) 1 ["rows", "kinds"] (spOf K rs0 (aCons (rpL (i := rpRow)) (aCons (rpT (i := rpS)) aNil)) (rpL (i := rpS)) (fun x post _ => post (nms x.2.1.l x.1))) := by
  obtain ⟨fd, F⟩ := T.d_law_names
  have nd := sc_law_names.nd
  refine ⟨⟨fd, fn_ok F sc_law_names (fun _ => rfl) (fun y cdv A outer s H G E hr => ⟨_, (b_ret (e_lc rfl nd (blkOk_by (own := [("row", 2)]) (by show blkC ["rows", "kinds", "row"] (defScope s_law_names) _ _ = true; decide +kernel)) (by decide) rfl (i_lst (e_var 0 rfl)) (fun _ _ _ _ _ => (g_name 2 nd)) (fun _ _ _ _ _ c1 => (JTs.conv (ts_one (t_cmp in_T (e_dn dnS (e_ix ix_T (e_up upRow (e_var 2 rfl)) e_int)) (e_var 1 rfl) rfl)) (by first | rfl | (dsimp only [Cx.blk] <;> rfl)) (by first | rfl | (dsimp only [Cx.blk] <;> rfl)))) (fun _ _ _ _ _ c1 => (JE.conv (e_dn dnS (e_ix ix_T (e_up upRow (e_var 2 rfl)) e_int)) (by first | rfl | (dsimp only [Cx.blk] <;> rfl)) (by first | rfl | (dsimp only [Cx.blk] <;> rfl))))))⟩) ?_, F.bindsN fun _ _ _ _ _ _ us hl => match us, hl with | [_, _], _ => rfl⟩, F.kp, T.g_law_names⟩
  intro y post ep h
  dsimp only [endP, seqP, endI]
  intro hz
  exact ⟨hz, lcP_eq (fun r : Row => decide (r.kind ∈ y.2.1.l)) Row.name _ (fun r hr P ep p => ⟨_, enc0 r, _, rfl, by rw [any_mem]; exact p⟩) (fun r hr _ P ep p => ⟨_, enc1 r, _, rfl, p⟩) h⟩
theorem sc_law_place : FnScope ["bag", "rows", "shape", "name", "feeders_v", "tanks", "pick", "cap"] ["bag", "rows", "shape", "name"] (defScope s_law_place) := ⟨rfl, rfl, rfl, by decide +kernel, rfl, by decide +kernel, by decide +kernel⟩
theorem ok_law_place (T : Txt w K mg) : Ok pw w K mg base "_law_place" (He.fAd K ("_law_place", none)) 2 ["bag", "rows", "shape", "name"] (spR K (rsH 4) (fun q => (aRf q (aCons (rpL (i := rpRow)) (aCons (rpL (i := rpI)) (aCons rpS aNil))))) (rpT (i := rpU)) (fun x post _ => (NewOk x.1 x.2.2.1 ∧ ShapeOk x.2.1 ∧ cnt x.1 PK < 16) ∧ ∀ r : Row, VRow x.1 r → r.kind ∈ PK → r.name = x.2.2.1 → post r.enc)) := by
  obtain ⟨fd_law_names, F_law_names, B_law_names⟩ := (ok_law_names (w := w) (base := base) T).ex
  have K_law_names := (ok_law_names (w := w) (base := base) T).kp
  have G_law_names := (ok_law_names (w := w) (base := base) T).gm
  obtain ⟨fd_law_take, F_law_take, B_law_take⟩ := (ok_law_take (w := w) (base := base) T).ex
  have K_law_take := (ok_law_take (w := w) (base := base) T).kp
  have G_law_take := (ok_law_take (w := w) (base := base) T).gm
  obtain ⟨fd, F⟩ := T.d_law_place
  have nd := sc_law_place.nd
  refine ⟨⟨fd, fn_okR F sc_law_place (fun _ _ => rfl) (fun q y cdv A outer s H G E hr => ⟨_, (b_set 4 nd (e_cb len_L T.f_len (a_cons (e_call F_law_names (hr.mono (by decide)) G_law_names K_law_names B_law_names (takes_of rfl rfl rfl rfl) (a_cons (e_var 1 rfl) (a_cons (e_tupT (a_cons e_str (a_cons e_str a_nil)) (.cons (.cons .nil))) a_nil))) a_nil))
 (fun feeders_v_1 => (b_set 5 nd (e_cb len_L T.f_len (a_cons (e_call F_law_names (hr.mono (by decide)) G_law_names K_law_names B_law_names (takes_of rfl rfl rfl rfl) (a_cons (e_var 1 rfl) (a_cons (e_tupT (a_cons e_str a_nil) (.cons .nil)) a_nil))) a_nil))
 (fun tanks_2 => (b_set 6 nd (e_callR rfl F_law_take (hr.mono (by decide)) G_law_take K_law_take B_law_take (takes_of rfl rfl rfl rfl) (a_rf 0 rfl (a_cons e_int a_nil)))
 (fun pick_3 => (b_if (mid := fun s4 : Unit => [.rf q, .val (rpL (i := rpRow)) y.1, .val (rpL (i := rpI)) y.2.1, .val rpS y.2.2.1, .val rpI feeders_v_1, .val rpI tanks_2, .val rpI pick_3, .no]) (t_pw (tw_or (t_cmp ge_I (e_var 4 rfl) (e_ix ix_L (e_var 2 rfl) e_int) (nomark _)) (tw_or1 (t_pw (tw_and (t_cmp gt_I (e_var 6 rfl) e_int (nomark _)) (tw_and1 (t_pw (tw_or (t_cmp gt_I (e_var 4 rfl) e_int (nomark _)) (tw_or1 (t_cmp gt_I (e_var 6 rfl) e_int (nomark _)))))))))))
 (b_ret (e_tupT (a_cons (e_up upS e_str) (a_cons (e_up upS (e_var 3 rfl)) a_nil)) (.cons (.cons .nil))))
 (b_nil () (.cons (.refl _) (.cons (.refl _) (.cons (.refl _) (.cons (.refl _) (.cons (.refl _) (.cons (.refl _) (.cons (.refl _) (.cons (.refl _) .nil)))))))))
 (fun s4 => (b_if (mid := fun s5 : Unit => [.rf q, .val (rpL (i := rpRow)) y.1, .val (rpL (i := rpI)) y.2.1, .val rpS y.2.2.1, .val rpI feeders_v_1, .val rpI tanks_2, .val rpI pick_3, .no]) (t_pw (tw_and (t_cmp eq_V (e_var 6 rfl) e_int (nomark _)) (tw_and1 (t_cmp lt_I (e_var 5 rfl) e_int (nomark _)))))
 (b_set 7 nd (e_op add_I e_int (e_callR rfl F_law_take (hr.mono (by decide)) G_law_take K_law_take B_law_take (takes_of rfl rfl rfl rfl) (a_rf 0 rfl (a_cons e_int a_nil))))
 (fun cap_6 => (b_ret (e_tupT (a_cons (e_up upS e_str) (a_cons (e_up upS (e_var 3 rfl)) (a_cons (e_up upI (e_var 7 rfl)) (a_cons (e_up upI (e_callR rfl F_law_take (hr.mono (by decide)) G_law_take K_law_take B_law_take (takes_of rfl rfl rfl rfl) (a_rf 0 rfl (a_cons (e_op add_I (e_var 7 rfl) e_int) a_nil)))) a_nil)))) (.cons (.cons (.cons (.cons .nil))))))))
 (b_nil () (.cons (.refl _) (.cons (.refl _) (.cons (.refl _) (.cons (.refl _) (.cons (.refl _) (.cons (.refl _) (.cons (.refl _) (.cons (.refl _) .nil)))))))))
 (fun s5 => (b_ret (e_tupT (a_cons (e_up upS e_str) (a_cons (e_up upS (e_var 3 rfl)) a_nil)) (.cons (.cons .nil))))))))))))))⟩) ?_, F.bindsN fun _ _ _ _ _ _ us hl => match us, hl with | [_, _, _, _], _ => rfl⟩, F.kp, T.g_law_place⟩
  intro y post ep h
  dsimp only [endP, seqP, endI]
  obtain ⟨⟨hn, ⟨b, c, d, e, hc⟩, hpk⟩, hp⟩ := h
  obtain ⟨rs, sh, nm, u⟩ := y
  dsimp only at hn e hpk hp ⊢
  subst e
  have N := hp (.node nm) (v_node hn.name hn.new hpk) (by simp only [Row.kind]; decide) rfl
  have S := hp (.source nm) (v_source hn.name hn.new hpk) (by simp only [Row.kind]; decide) rfl
  have T : ((nms ["tank"] rs).length : Int) < 2 → ∀ cap lv, 1 ≤ cap → cap ≤ 9 → 0 ≤ lv → lv ≤ cap → post (Row.tank nm cap lv).enc := fun h2 cap lv c1 c2 l1 l2 => hp (.tank nm cap lv) (v_tank hn.name hn.new hpk (by rw [cnt_nms] at h2; omega) ⟨c1, c2⟩ ⟨l1, l2⟩) (by simp only [Row.kind]; decide) rfl
  refine ⟨len_lit (by show 2 ≤ 1000; decide), fun _ => ⟨len_lit (by show 1 ≤ 1000; decide), fun _ => ⟨⟨by decide, by decide⟩, fun r r0 r1 => ⟨_, rfl, ?_⟩⟩⟩⟩
  repeat' (first | refine if_dd (fun _ => ?_) (fun _ => ?_) | refine if_t ?_ | refine if_f ?_ | intro _ | refine And.intro ?_ ?_)
  all_goals first
    | exact N
    | exact S
    | exact T (by assumption) _ _ (by omega) (by omega) (by omega) (by omega)
    | decide
    | omega
    | exact len_lit (Nat.le_of_ble_eq_true rfl)
theorem sc_law_link : FnScope ["bag", "rows", "shape", "name", "places", "at", "ahead", "first", "second", "feeders_v", "valve", "cost"] ["bag", "rows", "shape", "name"] (defScope s_law_link) := ⟨rfl, rfl, rfl, by decide +kernel, rfl, by decide +kernel, by decide +kernel⟩
theorem ok_law_link (T : Txt w K mg) : Ok pw w K mg base "_law_link" (He.fAd K ("_law_link", none)) 2 ["bag", "rows", "shape", "name"] (spR K (rsH 4) (fun q => (aRf q (aCons (rpL (i := rpRow)) (aCons (rpL (i := rpI)) (aCons rpS aNil))))) (rpT (i := rpU)) (fun x post _ => (NewOk x.1 x.2.2.1 ∧ ShapeOk x.2.1 ∧ cnt x.1 LK < 24) ∧ post ⟨[]⟩ ∧ ∀ r : Row, VRow x.1 r → r.kind ∈ LK → r.name = x.2.2.1 → post r.enc)) := by
  obtain ⟨fd_law_names, F_law_names, B_law_names⟩ := (ok_law_names (w := w) (base := base) T).ex
  have K_law_names := (ok_law_names (w := w) (base := base) T).kp
  have G_law_names := (ok_law_names (w := w) (base := base) T).gm
  obtain ⟨fd_law_take, F_law_take, B_law_take⟩ := (ok_law_take (w := w) (base := base) T).ex
  have K_law_take := (ok_law_take (w := w) (base := base) T).kp
  have G_law_take := (ok_law_take (w := w) (base := base) T).gm
  obtain ⟨fd, F⟩ := T.d_law_link
  have nd := sc_law_link.nd
  refine ⟨⟨fd, fn_okR F sc_law_link (fun _ _ => rfl) (fun q y cdv A outer s H G E hr => ⟨_, (b_set 4 nd (e_call F_law_names (hr.mono (by decide)) G_law_names K_law_names B_law_names (takes_of rfl rfl rfl rfl) (a_cons (e_var 1 rfl) (a_cons (e_tupT (a_cons e_str (a_cons e_str (a_cons e_str a_nil))) (.cons (.cons (.cons .nil)))) a_nil)))
 (fun places_1 => (b_ifJ (mid := fun s2 : Unit => [.rf q, .val (rpL (i := rpRow)) y.1, .val (rpL (i := rpI)) y.2.1, .val rpS y.2.2.1, .val (rpL (i := rpS)) places_1, .no, .no, .no, .no, .no, .no, .no]) (t_cmp lt_I (e_cb len_L T.f_len (a_cons (e_var 4 rfl) a_nil)) e_int (nomark _))
 (b_ret (e_tupT a_nil .nil))
 (b_nil () (.cons (.refl _) (.cons (.refl _) (.cons (.refl _) (.cons (.refl _) (.cons (.refl _) (.cons (.refl _) (.cons (.refl _) (.cons (.refl _) (.cons (.refl _) (.cons (.refl _) (.cons (.refl _) (.cons (.refl _) .nil)))))))))))))
 (fun s2 => (b_set 5 nd (e_callR rfl F_law_take (hr.mono (by decide)) G_law_take K_law_take B_law_take (takes_of rfl rfl rfl rfl) (a_rf 0 rfl (a_cons (e_cb len_L T.f_len (a_cons (e_var 4 rfl) a_nil)) a_nil)))
 (fun at_3 => (b_set 6 nd (e_op add_I e_int (e_callR rfl F_law_take (hr.mono (by decide)) G_law_take K_law_take B_law_take (takes_of rfl rfl rfl rfl) (a_rf 0 rfl (a_cons (e_op sub_I (e_cb len_L T.f_len (a_cons (e_var 4 rfl) a_nil)) e_int) a_nil))))
 (fun ahead_4 => (b_ifJ (mid := fun s5 : Int × Int => [.rf q, .val (rpL (i := rpRow)) y.1, .val (rpL (i := rpI)) y.2.1, .val rpS y.2.2.1, .val (rpL (i := rpS)) places_1, .val rpI s5.1, .val rpI s5.2, .no, .no, .no, .no, .no]) (JT.cut (t_pw (tw_and (t_cmp eq_V (e_ix ix_L (e_var 2 rfl) e_int) e_int (nomark _)) (tw_and1 (t_cmp gt_I (e_callR rfl F_law_take (hr.mono (by decide)) G_law_take K_law_take B_law_take (takes_of rfl rfl rfl rfl) (a_rf 0 rfl (a_cons e_int a_nil))) e_int (nomark _))))))
 (b_set 5 nd (e_op mod_I (e_cb len_L T.f_len (a_cons (e_call F_law_names (hr.mono (by decide)) G_law_names K_law_names B_law_names (takes_of rfl rfl rfl rfl) (a_cons (e_var 1 rfl) (a_cons (e_tupT (a_cons e_str (a_cons e_str a_nil)) (.cons (.cons .nil))) a_nil))) a_nil)) (e_cb len_L T.f_len (a_cons (e_var 4 rfl) a_nil)))
 (fun at_6 => (b_set 6 nd e_int
 (fun ahead_7 => (b_nil (at_6, ahead_7) (.cons (.refl _) (.cons (.refl _) (.cons (.refl _) (.cons (.refl _) (.cons (.refl _) (.cons (.refl _) (.cons (.refl _) (.cons (.refl _) (.cons (.refl _) (.cons (.refl _) (.cons (.refl _) (.cons (.refl _) .nil)))))))))))))))))
 (b_nil (at_3, ahead_4) (.cons (.refl _) (.cons (.refl _) (.cons (.refl _) (.cons (.refl _) (.cons (.refl _) (.cons (.refl _) (.cons (.refl _) (.cons (.refl _) (.cons (.refl _) (.cons (.refl _) (.cons (.refl _) (.cons (.refl _) .nil)))))))))))))
 (fun s5 => (b_set 7 nd (e_ix ix_L (e_var 4 rfl) (e_var 5 rfl))
 (fun first_8 => (b_set 8 nd (e_ix ix_L (e_var 4 rfl) (e_op mod_I (e_ct int_I T.f_int (a_cons (e_op add_I (e_var 5 rfl) (e_var 6 rfl)) a_nil)) (e_cb len_L T.f_len (a_cons (e_var 4 rfl) a_nil))))
 (fun second_9 => (b_set 9 nd (e_call F_law_names (hr.mono (by decide)) G_law_names K_law_names B_law_names (takes_of rfl rfl rfl rfl) (a_cons (e_var 1 rfl) (a_cons (e_tupT (a_cons e_str (a_cons e_str a_nil)) (.cons (.cons .nil))) a_nil)))
 (fun feeders_v_10 => (b_set 10 nd (JE.cut (e_or (e_cmp lt_I (e_callR rfl F_law_take (hr.mono (by decide)) G_law_take K_law_take B_law_take (takes_of rfl rfl rfl rfl) (a_rf 0 rfl (a_cons e_int a_nil))) e_int (nomark _)) (e_one (e_cmp eq_V (e_ix ix_L (e_var 2 rfl) e_int) e_int (nomark _)))))
 (fun valve_11 => (b_ifJ (mid := fun s12 : Bool => [.rf q, .val (rpL (i := rpRow)) y.1, .val (rpL (i := rpI)) y.2.1, .val rpS y.2.2.1, .val (rpL (i := rpS)) places_1, .val rpI s5.1, .val rpI s5.2, .val rpS first_8, .val rpS second_9, .val (rpL (i := rpS)) feeders_v_10, .val rpB s12, .no]) (JT.cut (t_pw (tw_and (t_cmp eq_V (e_ix ix_L (e_var 2 rfl) e_int) e_int (nomark _)) (tw_and1 (JT.cut (t_pw (tw_or (t_cmp in_L (e_var 7 rfl) (e_var 9 rfl) rfl) (tw_or1 (t_cmp in_L (e_var 8 rfl) (e_var 9 rfl) rfl)))))))))
 (b_set 10 nd e_bool
 (fun valve_13 => (b_nil valve_13 (.cons (.refl _) (.cons (.refl _) (.cons (.refl _) (.cons (.refl _) (.cons (.refl _) (.cons (.refl _) (.cons (.refl _) (.cons (.refl _) (.cons (.refl _) (.cons (.refl _) (.cons (.refl _) (.cons (.refl _) .nil)))))))))))))))
 (b_nil valve_11 (.cons (.refl _) (.cons (.refl _) (.cons (.refl _) (.cons (.refl _) (.cons (.refl _) (.cons (.refl _) (.cons (.refl _) (.cons (.refl _) (.cons (.refl _) (.cons (.refl _) (.cons (.refl _) (.cons (.refl _) .nil)))))))))))))
 (fun s12 => (b_ifJ (mid := fun s14 : Unit => [.rf q, .val (rpL (i := rpRow)) y.1, .val (rpL (i := rpI)) y.2.1, .val rpS y.2.2.1, .val (rpL (i := rpS)) places_1, .val rpI s5.1, .val rpI s5.2, .val rpS first_8, .val rpS second_9, .val (rpL (i := rpS)) feeders_v_10, .val rpB s12, .no]) (JT.cut (t_pw (tw_or (t_not (t_val (e_var 10 rfl))) (tw_or1 (t_cmp ge_I (e_cb len_L T.f_len (a_cons (e_call F_law_names (hr.mono (by decide)) G_law_names K_law_names B_law_names (takes_of rfl rfl rfl rfl) (a_cons (e_var 1 rfl) (a_cons (e_tupT (a_cons e_str a_nil) (.cons .nil)) a_nil))) a_nil)) (e_ix ix_L (e_var 2 rfl) e_int) (nomark _))))))
 (b_ret (e_tupT (a_cons (e_up upS e_str) (a_cons (e_up upS (e_var 3 rfl)) (a_cons (e_up upS (e_var 7 rfl)) (a_cons (e_up upS (e_var 8 rfl)) a_nil)))) (.cons (.cons (.cons (.cons .nil))))))
 (b_nil () (.cons (.refl _) (.cons (.refl _) (.cons (.refl _) (.cons (.refl _) (.cons (.refl _) (.cons (.refl _) (.cons (.refl _) (.cons (.refl _) (.cons (.refl _) (.cons (.refl _) (.cons (.refl _) (.cons (.refl _) .nil)))))))))))))
 (fun s14 => (b_set 11 nd (e_op add_I e_int (e_callR rfl F_law_take (hr.mono (by decide)) G_law_take K_law_take B_law_take (takes_of rfl rfl rfl rfl) (a_rf 0 rfl (a_cons e_int a_nil))))
 (fun cost_15 => (b_ifJ (mid := fun s16 : Int => [.rf q, .val (rpL (i := rpRow)) y.1, .val (rpL (i := rpI)) y.2.1, .val rpS y.2.2.1, .val (rpL (i := rpS)) places_1, .val rpI s5.1, .val rpI s5.2, .val rpS first_8, .val rpS second_9, .val (rpL (i := rpS)) feeders_v_10, .val rpB s12, .val rpI s16]) (t_cmp eq_V (e_callR rfl F_law_take (hr.mono (by decide)) G_law_take K_law_take B_law_take (takes_of rfl rfl rfl rfl) (a_rf 0 rfl (a_cons e_int a_nil))) e_int (nomark _))
 (b_set 11 nd (e_op add_I e_int (e_op fdiv_I (e_var 11 rfl) e_int))
 (fun cost_17 => (b_nil cost_17 (.cons (.refl _) (.cons (.refl _) (.cons (.refl _) (.cons (.refl _) (.cons (.refl _) (.cons (.refl _) (.cons (.refl _) (.cons (.refl _) (.cons (.refl _) (.cons (.refl _) (.cons (.refl _) (.cons (.refl _) .nil)))))))))))))))
 (b_nil cost_15 (.cons (.refl _) (.cons (.refl _) (.cons (.refl _) (.cons (.refl _) (.cons (.refl _) (.cons (.refl _) (.cons (.refl _) (.cons (.refl _) (.cons (.refl _) (.cons (.refl _) (.cons (.refl _) (.cons (.refl _) .nil)))))))))))))
 (fun s16 => (b_ret (e_tupT (a_cons (e_up upS e_str) (a_cons (e_up upS (e_var 3 rfl)) (a_cons (e_up upS (e_var 7 rfl)) (a_cons (e_up upS (e_var 8 rfl)) (a_cons (e_up upS (e_ix ix_L (e_list (iα := rpS) (a_cons e_str (a_cons e_str a_nil)) (.cons (.cons .nil))) (e_callR rfl F_law_take (hr.mono (by decide)) G_law_take K_law_take B_law_take (takes_of rfl rfl rfl rfl) (a_rf 0 rfl (a_cons e_int a_nil))))) (a_cons (e_up upI (e_var 11 rfl)) a_nil)))))) (.cons (.cons (.cons (.cons (.cons (.cons .nil))))))))))))))))))))))))))))))))))⟩) ?_, F.bindsN fun _ _ _ _ _ _ us hl => match us, hl with | [_, _, _, _], _ => rfl⟩, F.kp, T.g_law_link⟩
  intro y post ep h
  dsimp only [endP, seqP, endI]
  obtain ⟨⟨hn, ⟨b, c, d, e, hc⟩, hlk⟩, hp0, hp⟩ := h
  obtain ⟨rs, sh, nm, u⟩ := y
  dsimp only at hn e hlk hp hp0 ⊢
  subst e
  have hv := hn.rows
  have hz := sz
  have fw := hv.few
  have nd := nms_nd hv PK
  have len : (nms PK rs).length ≤ 16 := by rw [cnt_nms]; omega
  have lenE : (nms [("node" : Str), "source", "tank"] rs).length = (nms PK rs).length := rfl
  have ll : (nms LK rs).length ≤ 24 := by rw [cnt_nms]; omega
  have ne : ∀ {i j : Int} {a b : Str}, 0 ≤ i → i < ((nms PK rs).length : Int) → 1 ≤ j → j < ((nms PK rs).length : Int) → (nms PK rs)[i.toNat]? = some a → (nms PK rs)[((i + j) % ((nms PK rs).length : Int)).toNat]? = some b → a ≠ b := by
    intro i j a b i0 i1 j0 j1 ha hb e
    subst e
    have m0 := Int.emod_nonneg (i + j) (show ((nms PK rs).length : Int) ≠ 0 by omega)
    have m1 := Int.emod_lt_of_pos (i + j) (show (0 : Int) < ((nms PK rs).length : Int) by omega)
    have := (List.getElem?_inj (i := i.toNat) (j := ((i + j) % ((nms PK rs).length : Int)).toNat) (by omega) nd).mp (ha.trans hb.symm)
    by_cases z : i + j < ((nms PK rs).length : Int)
    · rw [Int.emod_eq_of_lt (by omega) z] at this m0 m1
      omega
    · have e2 : (i + j) % ((nms PK rs).length : Int) = i + j - ((nms PK rs).length : Int) := by
        rw [← Int.sub_emod_right, Int.emod_eq_of_lt (by omega) (by omega)]
      rw [e2] at this
      omega
  refine ⟨len3, ex_J (fun _ => (2 : Int) ≤ ((nms PK rs).length : Int)) (fun _ => if_dd (fun _ => ⟨len0, rt_in hp0⟩) fun h => nx_in (by omega)) fun _ h2 _ => ⟨⟨by omega, by omega⟩, fun i i0 i1 _ => ⟨⟨by omega, by omega⟩, fun j j0 j1 => ?_⟩⟩⟩
  have em : ∀ x : Int, 0 ≤ x % ((nms PK rs).length : Int) ∧ x % ((nms PK rs).length : Int) < ((nms PK rs).length : Int) := fun x => ⟨Int.emod_nonneg _ (by omega), Int.emod_lt_of_pos _ (by omega)⟩
  refine ex_J (fun s => (0 ≤ s.1 ∧ s.1 < ((nms PK rs).length : Int)) ∧ 1 ≤ s.2 ∧ s.2 < ((nms PK rs).length : Int)) (cutA ⟨_, rfl, if_dd (fun _ => ⟨⟨by decide, by decide⟩, fun _ _ _ => trivial⟩) fun _ => trivial⟩ fun k => ?_) fun s hs => ?_
  · cases k with
    | true => exact if_t ⟨len2, fun _ _ => ⟨by omega, nx_in ⟨em _, Int.le_refl _, by show (1 : Int) < _; omega⟩⟩⟩
    | false => exact if_f (nx_in ⟨⟨i0, i1⟩, by show (1 : Int) ≤ 1 + j; omega, by show 1 + j < _; omega⟩)
  obtain ⟨at_, ahead⟩ := s
  obtain ⟨⟨s0, s1⟩, s2, s3⟩ := hs
  dsimp only at s0 s1 s2 s3 ⊢
  refine ex_at s0 s1 fun x hx ex => fun _ => ⟨by omega, ex_at (em _).1 (em _).2 fun z hz ez => ⟨len2, ?_⟩⟩
  have nxz := ne s0 s1 s2 s3 ex ez
  refine cutA ⟨⟨by decide, by decide⟩, fun _ _ _ => if_dd (fun _ => trivial) fun _ => ⟨_, rfl, trivial⟩⟩ fun valve => ?_
  refine ex_J (fun _ => True) (cutA ⟨_, rfl, if_dd (fun _ => cutA (if_in (fun _ => trivial) fun _ => trivial) fun _ => trivial) fun _ => trivial⟩ fun k => by cases k <;> exact trivial) fun valve _ => ?_
  refine ex_J (fun _ => ¬ (8 : Int) ≤ ((nms ["valve"] rs).length : Int)) (cutJ (fun k => k = false → ¬ (8 : Int) ≤ ((nms ["valve"] rs).length : Int)) ?_ fun k hk => ?_) fun _ h8 => ⟨⟨by decide, by decide⟩, fun r r0 r1 => ?_⟩
  · cases valve with
    | false => exact if_nf (fun e => nomatch e)
    | true => exact if_nt ⟨len1, fun _ => ⟨_, rfl, fun e => of_decide_eq_false e⟩⟩
  · cases k with
    | true => exact if_t ⟨len4, rt_in (hp (.pipe nm x z) (v_pipe hv hn.name hn.new hlk hx hz nxz) (by simp only [Row.kind]; decide) rfl)⟩
    | false => exact if_f (nx_in (hk rfl))
  refine ex_J (fun c => 1 ≤ c ∧ c ≤ 99) ⟨⟨by decide, by decide⟩, fun q q0 q1 => if_dd (fun _ => ⟨⟨by decide, by decide⟩, nx_in ⟨by omega, by omega⟩⟩) fun _ => nx_in ⟨by omega, by omega⟩⟩ fun c hc => ⟨len2, ⟨by decide, by decide⟩, fun q q0 q1 => ex_at q0 q1 fun p hpp _ => ⟨len6, ?_⟩⟩
  exact hp (.valve nm x z p c) (v_valve hv hn.name hn.new hlk (by rw [cnt_nms] at h8; omega) hx hz nxz (by simpa using hpp) hc) (by simp only [Row.kind]; decide) rfl
theorem sc_law_instrument : FnScope ["bag", "rows", "group", "name", "places", "low", "tanks", "tank", "others", "place", "metered", "bare", "row", "one"] ["bag", "rows", "group", "name"] (defScope s_law_instrument) := ⟨rfl, rfl, rfl, by decide +kernel, rfl, by decide +kernel, by decide +kernel⟩
theorem ok_law_instrument (T : Txt w K mg) : Ok pw w K mg base "_law_instrument" (He.fAd K ("_law_instrument", none)) 2 ["bag", "rows", "group", "name"] (spR K (rsH 4) (fun q => (aRf q (aCons (rpL (i := rpRow)) (aCons rpI (aCons rpS aNil))))) (rpT (i := rpU)) (fun x post _ => (NewOk x.1 x.2.2.1 ∧ FewIns x.1) ∧ post ⟨[]⟩ ∧ ∀ r : Row, VRow x.1 r → (x.2.1 = 2 ∧ r.kind = "tap" ∨ x.2.1 = 3 ∧ r.kind = "pump" ∨ x.2.1 = 4 ∧ r.kind = "meter") → r.name = x.2.2.1 → post r.enc)) := by
  obtain ⟨fd_law_names, F_law_names, B_law_names⟩ := (ok_law_names (w := w) (base := base) T).ex
  have K_law_names := (ok_law_names (w := w) (base := base) T).kp
  have G_law_names := (ok_law_names (w := w) (base := base) T).gm
  obtain ⟨fd_law_take, F_law_take, B_law_take⟩ := (ok_law_take (w := w) (base := base) T).ex
  have K_law_take := (ok_law_take (w := w) (base := base) T).kp
  have G_law_take := (ok_law_take (w := w) (base := base) T).gm
  obtain ⟨fd, F⟩ := T.d_law_instrument
  have nd := sc_law_instrument.nd
  refine ⟨⟨fd, fn_okR F sc_law_instrument (fun _ _ => rfl) (fun q y cdv A outer s H G E hr => ⟨_, (b_set 4 nd (e_call F_law_names (hr.mono (by decide)) G_law_names K_law_names B_law_names (takes_of rfl rfl rfl rfl) (a_cons (e_var 1 rfl) (a_cons (e_tupT (a_cons e_str (a_cons e_str (a_cons e_str a_nil))) (.cons (.cons (.cons .nil)))) a_nil)))
 (fun places_1 => (b_ifJ (mid := fun s2 : Unit => [.rf q, .val (rpL (i := rpRow)) y.1, .val rpI y.2.1, .val rpS y.2.2.1, .val (rpL (i := rpS)) places_1, .no, .no, .no, .no, .no, .no, .no, .no, .no]) (JT.cut (t_pw (tw_and (t_cmp eq_V (e_var 2 rfl) e_int (nomark _)) (tw_and1 (t_cmp gt_I (e_cb len_L T.f_len (a_cons (e_var 4 rfl) a_nil)) e_int (nomark _))))))
 (b_set 5 nd (e_callR rfl F_law_take (hr.mono (by decide)) G_law_take K_law_take B_law_take (takes_of rfl rfl rfl rfl) (a_rf 0 rfl (a_cons e_int a_nil)))
 (fun low_3 => (b_ret (e_tupT (a_cons (e_up upS e_str) (a_cons (e_up upS (e_var 3 rfl)) (a_cons (e_up upS (e_ix ix_L (e_var 4 rfl) (e_callR rfl F_law_take (hr.mono (by decide)) G_law_take K_law_take B_law_take (takes_of rfl rfl rfl rfl) (a_rf 0 rfl (a_cons (e_cb len_L T.f_len (a_cons (e_var 4 rfl) a_nil)) a_nil))))) (a_cons (e_up upI (e_var 5 rfl)) (a_cons (e_up upI (e_op add_I (e_var 5 rfl) (e_callR rfl F_law_take (hr.mono (by decide)) G_law_take K_law_take B_law_take (takes_of rfl rfl rfl rfl) (a_rf 0 rfl (a_cons (e_op sub_I e_int (e_var 5 rfl)) a_nil))))) a_nil))))) (.cons (.cons (.cons (.cons (.cons .nil)))))))))
 (b_nil () (.cons (.refl _) (.cons (.refl _) (.cons (.refl _) (.cons (.refl _) (.cons (.refl _) (.cons (.refl _) (.cons (.refl _) (.cons (.refl _) (.cons (.refl _) (.cons (.refl _) (.cons (.refl _) (.cons (.refl _) (.cons (.refl _) (.cons (.refl _) .nil)))))))))))))))
 (fun s2 => (b_set 6 nd (e_call F_law_names (hr.mono (by decide)) G_law_names K_law_names B_law_names (takes_of rfl rfl rfl rfl) (a_cons (e_var 1 rfl) (a_cons (e_tupT (a_cons e_str a_nil) (.cons .nil)) a_nil)))
 (fun tanks_4 => (b_ifJ (mid := fun s5 : Unit => [.rf q, .val (rpL (i := rpRow)) y.1, .val rpI y.2.1, .val rpS y.2.2.1, .val (rpL (i := rpS)) places_1, .no, .val (rpL (i := rpS)) tanks_4, .no, .no, .no, .no, .no, .no, .no]) (JT.cut (t_pw (tw_and (t_cmp eq_V (e_var 2 rfl) e_int (nomark _)) (tw_and (t_cmp gt_I (e_cb len_L T.f_len (a_cons (e_var 6 rfl) a_nil)) e_int (nomark _)) (tw_and1 (t_cmp gt_I (e_cb len_L T.f_len (a_cons (e_var 4 rfl) a_nil)) e_int (nomark _)))))))
 (b_set 7 nd (e_ix ix_L (e_var 6 rfl) (e_callR rfl F_law_take (hr.mono (by decide)) G_law_take K_law_take B_law_take (takes_of rfl rfl rfl rfl) (a_rf 0 rfl (a_cons (e_cb len_L T.f_len (a_cons (e_var 6 rfl) a_nil)) a_nil))))
 (fun tank_6 => (b_setLc 8 rfl nd (blkOk_by (own := [("one", 13)]) (by show blkC ["bag", "rows", "group", "name", "places", "low", "tanks", "tank", "others", "place", "metered", "bare", "row", "one"] (defScope s_law_instrument) _ _ = true; decide +kernel)) (by decide) rfl (i_lst (e_var 4 rfl)) (fun _ _ _ _ _ => (g_name 13 nd)) (fun _ _ _ _ _ c8 => (JTs.conv (ts_one (t_cmp ne_V (e_var 13 rfl) (e_var 7 rfl) (nomark _))) (by first | rfl | (dsimp only [Cx.blk] <;> rfl)) (by first | rfl | (dsimp only [Cx.blk] <;> rfl)))) (fun _ _ _ _ _ c8 => (e_var 13 rfl))
 (fun others_7 => (b_set 9 nd (e_ix ix_L (e_var 8 rfl) (e_callR rfl F_law_take (hr.mono (by decide)) G_law_take K_law_take B_law_take (takes_of rfl rfl rfl rfl) (a_rf 0 rfl (a_cons (e_cb len_L T.f_len (a_cons (e_var 8 rfl) a_nil)) a_nil))))
 (fun place_9 => (b_ret (e_tupT (a_cons (e_up upS e_str) (a_cons (e_up upS (e_var 3 rfl)) (a_cons (e_up upS (e_var 9 rfl)) (a_cons (e_up upS (e_var 7 rfl)) (a_cons (e_up upI (e_op add_I e_int (e_callR rfl F_law_take (hr.mono (by decide)) G_law_take K_law_take B_law_take (takes_of rfl rfl rfl rfl) (a_rf 0 rfl (a_cons e_int a_nil))))) (a_cons (e_up upS (e_ix ix_L (e_list (iα := rpS) (a_cons e_str (a_cons e_str a_nil)) (.cons (.cons .nil))) (e_callR rfl F_law_take (hr.mono (by decide)) G_law_take K_law_take B_law_take (takes_of rfl rfl rfl rfl) (a_rf 0 rfl (a_cons e_int a_nil))))) a_nil)))))) (.cons (.cons (.cons (.cons (.cons (.cons .nil))))))))))))))
 (b_nil () (.cons (.refl _) (.cons (.refl _) (.cons (.refl _) (.cons (.refl _) (.cons (.refl _) (.cons (.refl _) (.cons (.refl _) (.cons (.refl _) (.cons (.refl _) (.cons (.refl _) (.cons (.refl _) (.cons (.refl _) (.cons (.refl _) (.cons (.refl _) .nil)))))))))))))))
 (fun s5 => (b_set 10 nd (e_lc rfl nd (blkOk_by (own := [("row", 12)]) (by show blkC ["bag", "rows", "group", "name", "places", "low", "tanks", "tank", "others", "place", "metered", "bare", "row", "one"] (defScope s_law_instrument) _ _ = true; decide +kernel)) (by decide) rfl (i_lst (e_var 1 rfl)) (fun _ _ _ _ _ => (g_name 12 nd)) (fun _ _ _ _ _ c11 => (JTs.conv (ts_one (t_cmp eq_V (e_dn dnS (e_ix ix_T (e_up upRow (e_var 12 rfl)) e_int)) e_str (nomark _))) (by first | rfl | (dsimp only [Cx.blk] <;> rfl)) (by first | rfl | (dsimp only [Cx.blk] <;> rfl)))) (fun _ _ _ _ _ c11 => (JE.conv (e_dn dnS (e_ix ix_T (e_up upRow (e_var 12 rfl)) e_int)) (by first | rfl | (dsimp only [Cx.blk] <;> rfl)) (by first | rfl | (dsimp only [Cx.blk] <;> rfl)))))
 (fun metered_10 => (b_setLc 11 rfl nd (blkOk_by (own := [("one", 13)]) (by show blkC ["bag", "rows", "group", "name", "places", "low", "tanks", "tank", "others", "place", "metered", "bare", "row", "one"] (defScope s_law_instrument) _ _ = true; decide +kernel)) (by decide) rfl (i_lst (e_call F_law_names (hr.mono (by decide)) G_law_names K_law_names B_law_names (takes_of rfl rfl rfl rfl) (a_cons (e_var 1 rfl) (a_cons (e_tupT (a_cons e_str (a_cons e_str a_nil)) (.cons (.cons .nil))) a_nil)))) (fun _ _ _ _ _ => (g_name 13 nd)) (fun _ _ _ _ _ c13 => (JTs.conv (ts_one (t_cmp nin_L (e_var 13 rfl) (e_var 10 rfl) rfl)) (by first | rfl | (dsimp only [Cx.blk] <;> rfl)) (by first | rfl | (dsimp only [Cx.blk] <;> rfl)))) (fun _ _ _ _ _ c13 => (e_var 13 rfl))
 (fun bare_12 => (b_ifJ (mid := fun s14 : Unit => [.rf q, .val (rpL (i := rpRow)) y.1, .val rpI y.2.1, .val rpS y.2.2.1, .val (rpL (i := rpS)) places_1, .no, .val (rpL (i := rpS)) tanks_4, .no, .no, .no, .val (rpL (i := rpS)) metered_10, .val (rpL (i := rpS)) bare_12, .no, .no]) (JT.cut (t_pw (tw_and (t_cmp eq_V (e_var 2 rfl) e_int (nomark _)) (tw_and1 (t_cmp gt_I (e_cb len_L T.f_len (a_cons (e_var 11 rfl) a_nil)) e_int (nomark _))))))
 (b_ret (e_tupT (a_cons (e_up upS e_str) (a_cons (e_up upS (e_var 3 rfl)) (a_cons (e_up upS (e_ix ix_L (e_var 11 rfl) (e_callR rfl F_law_take (hr.mono (by decide)) G_law_take K_law_take B_law_take (takes_of rfl rfl rfl rfl) (a_rf 0 rfl (a_cons (e_cb len_L T.f_len (a_cons (e_var 11 rfl) a_nil)) a_nil))))) a_nil))) (.cons (.cons (.cons .nil)))))
 (b_nil () (.cons (.refl _) (.cons (.refl _) (.cons (.refl _) (.cons (.refl _) (.cons (.refl _) (.cons (.refl _) (.cons (.refl _) (.cons (.refl _) (.cons (.refl _) (.cons (.refl _) (.cons (.refl _) (.cons (.refl _) (.cons (.refl _) (.cons (.refl _) .nil)))))))))))))))
 (fun s14 => (b_ret (e_tupT a_nil .nil))))))))))))))))⟩) ?_, F.bindsN fun _ _ _ _ _ _ us hl => match us, hl with | [_, _, _, _], _ => rfl⟩, F.kp, T.g_law_instrument⟩
  intro y post ep h
  dsimp only [endP, seqP, endI]
  obtain ⟨⟨hn, f1, f2, f3⟩, hp0, hp⟩ := h
  obtain ⟨rs, g, nm, u⟩ := y
  dsimp only at hn f1 f2 f3 hp hp0 ⊢
  have hv := hn.rows
  have hz := sz
  have fw := hv.few
  have len : (nms PK rs).length ≤ 16 := by rw [cnt_nms]; omega
  have lenE : (nms [("node" : Str), "source", "tank"] rs).length = (nms PK rs).length := rfl
  have lt : (nms ["tank"] rs).length ≤ 16 := by
    have := (nms_sub rs ["tank"]).length_le
    have := hv.full (["tank"], 2) (by simp [MAXL])
    rw [cnt_nms]
    dsimp only at this
    omega
  refine ⟨len3, ex_J (fun _ => True) (cutJ (fun k => k = true → g = 2 ∧ (0 : Int) < ((nms PK rs).length : Int)) (if_dd (fun h _ => fun e => ⟨h, of_decide_eq_true e⟩) fun _ => (fun e => nomatch e)) fun k hk => ?_) fun _ _ => ⟨len1, ?_⟩⟩
  · cases k with
    | false => exact if_f (nx_in trivial)
    | true =>
      obtain ⟨h1, h2⟩ := hk rfl
      refine if_t ⟨⟨by decide, by decide⟩, fun l l0 l1 _ => ⟨⟨h2, by omega⟩, fun i i0 i1 => ex_at i0 i1 fun a ha _ => ⟨⟨by omega, by omega⟩, fun q q0 q1 => ⟨len5, rt_in ?_⟩⟩⟩⟩
      exact hp (.tap nm a l (l + q)) (v_tap hv hn.name hn.new f1 ha ⟨l0, by omega⟩ (by omega)) (.inl ⟨h1, rfl⟩) rfl
  refine ex_J (fun _ => True) (cutJ (fun k => k = true → g = 3 ∧ (0 : Int) < ((nms ["tank"] rs).length : Int) ∧ (1 : Int) < ((nms PK rs).length : Int)) (if_dd (fun h _ => if_dd (fun h2 _ => fun e => ⟨h, h2, of_decide_eq_true e⟩) fun _ => (fun e => nomatch e)) fun _ => (fun e => nomatch e)) fun k hk => ?_) fun _ _ => ?_
  · cases k with
    | false => exact if_f (nx_in trivial)
    | true =>
      obtain ⟨h1, h2, h3⟩ := hk rfl
      refine if_t fun _ => ⟨⟨h2, by omega⟩, fun i i0 i1 => ex_at i0 i1 fun tk htk _ => fun _ => ⟨by omega, ?_⟩⟩
      refine lcP_eq (fun n => !decide (n = tk)) (fun n => n) _ (fun _ _ _ _ p => p) (fun _ _ _ _ _ p => p) ?_
      rw [List.map_id']
      intro hl
      have nd := nms_nd hv PK
      have hpos : 0 < ((nms PK rs).filter fun n => !decide (n = tk)).length := by
        cases e : (nms PK rs).filter fun n => !decide (n = tk) with
        | cons a l => exact Nat.succ_pos _
        | nil =>
          have all : ∀ x ∈ nms PK rs, x ∈ [tk] := fun x hx => by
            by_cases z : x = tk
            · rw [z]; exact List.mem_cons_self
            · have : x ∈ (nms PK rs).filter fun n => !decide (n = tk) := List.mem_filter.mpr ⟨hx, by simpa using z⟩
              rw [e] at this
              cases this
          have := nodup_len nd all
          rw [List.length_singleton] at this
          omega
      have hle : ((nms PK rs).filter fun n => !decide (n = tk)).length ≤ 16 := by
        have := List.length_filter_le (fun n => !decide (n = tk)) (nms PK rs)
        omega
      refine ⟨⟨Int.natCast_pos.mpr hpos, Int.lt_of_le_of_lt (Int.ofNat_le.mpr hle) (by decide)⟩, fun j j0 j1 => ex_at j0 j1 fun a ha _ => ⟨⟨by decide, by decide⟩, fun r r0 r1 => ⟨len2, ⟨by decide, by decide⟩, fun q q0 q1 => ex_at q0 q1 fun s hs _ => ⟨len6, rt_in ?_⟩⟩⟩⟩
      obtain ⟨a1, a2⟩ := List.mem_filter.mp ha
      exact hp (.pump nm a tk (1 + r) s) (v_pump hv hn.name hn.new f2 a1 htk (by simpa using a2) ⟨by omega, by omega⟩ (by simpa using hs)) (.inr (.inl ⟨h1, rfl⟩)) rfl
  intro hl
  refine ⟨hl, lcP_eq (fun r : Row => decide (r.kind = ("meter" : Str))) (fun r => match r with
    | .meter _ b => b
    | _ => ("" : Str)) _ (fun r _ P ep p => ⟨_, enc0 r, _, rfl, p⟩) (fun r _ hk P ep p => ?_) ⟨len2, fun hl2 => ⟨hl2, ?_⟩⟩⟩
  · cases r with
    | meter n b => exact ⟨_, rfl, b, rfl, p⟩
    | _ => exact absurd (of_decide_eq_true hk) (by simp only [Row.kind]; decide)
  generalize hmm : ((rs.filter fun r : Row => decide (r.kind = ("meter" : Str))).map fun r => match r with
    | .meter _ b => b
    | _ => ("" : Str)) = M
  have hM : ∀ a, ¬ a ∈ M → metered rs a = false := fun a ha => by
    unfold metered
    rw [List.any_eq_false]
    intro r hr z
    cases r with
    | meter n b =>
      have z : b = a := of_decide_eq_true z
      exact ha (by rw [← hmm]; exact List.mem_map.mpr ⟨.meter n b, List.mem_filter.mpr ⟨hr, rfl⟩, z⟩)
    | _ => cases z
  refine lcP_eq (fun l => !(M.any fun m => m == l)) (fun l => l) _ (fun _ _ _ _ p => p) (fun _ _ _ _ _ p => p) ?_
  rw [List.map_id']
  have hle : ((nms LK rs).filter fun l => !(M.any fun m => m == l)).length ≤ 24 := by
    have := List.length_filter_le (fun l => !(M.any fun m => m == l)) (nms LK rs)
    have : (nms LK rs).length ≤ 24 := by rw [cnt_nms]; omega
    omega
  refine ex_J (fun _ => True) (cutJ (fun k => k = true → g = 4 ∧ (0 : Int) < (((nms LK rs).filter fun l => !(M.any fun m => m == l)).length : Int)) (if_dd (fun h _ => fun e => ⟨h, of_decide_eq_true e⟩) fun _ => (fun e => nomatch e)) fun k hk => ?_) fun _ _ => ⟨len0, hp0⟩
  cases k with
  | false => exact if_f (nx_in trivial)
  | true =>
    obtain ⟨h1, h2⟩ := hk rfl
    refine if_t fun _ => ⟨⟨h2, by omega⟩, fun j j0 j1 => ex_at j0 j1 fun a ha _ => ⟨len3, rt_in ?_⟩⟩
    obtain ⟨a1, a2⟩ := List.mem_filter.mp ha
    exact hp (.meter nm a) (v_meter hv hn.name hn.new f3 a1 (hM a (by rw [any_mem] at a2; simpa using a2))) (.inr (.inr ⟨h1, rfl⟩)) rfl
theorem sc_law_group : FnScope ["bag", "left", "at", "group"] ["bag", "left"] (defScope s_law_group) := ⟨rfl, rfl, rfl, by decide +kernel, rfl, by decide +kernel, by decide +kernel⟩
theorem ok_law_group (T : Txt w K mg) : Ok pw w K mg base "_law_group" (He.fAd K ("_law_group", none)) 2 ["bag", "left"] (spR K (rsH 4) (fun q => (aRf q (aCons (rpL (i := rpI)) aNil))) rpI (fun x post _ => (x.1.length = 5 ∧ (∀ n ∈ x.1, 0 ≤ n ∧ n ≤ 100) ∧ 0 < x.1.sum) ∧ ∀ (k : Nat) (n : Int), x.1[k]? = some n → 0 < n → post (k : Int))) := by
  obtain ⟨fd_law_take, F_law_take, B_law_take⟩ := (ok_law_take (w := w) (base := base) T).ex
  have K_law_take := (ok_law_take (w := w) (base := base) T).kp
  have G_law_take := (ok_law_take (w := w) (base := base) T).gm
  obtain ⟨fd, F⟩ := T.d_law_group
  have nd := sc_law_group.nd
  refine ⟨⟨fd, fn_okR F sc_law_group (fun _ _ => rfl) (fun q y cdv A outer s H G E hr => ⟨_, (b_set 2 nd (e_callR rfl F_law_take (hr.mono (by decide)) G_law_take K_law_take B_law_take (takes_of rfl rfl rfl rfl) (a_rf 0 rfl (a_cons (e_cb (sum_L rfl) T.f_sum (a_cons (e_var 1 rfl) a_nil)) a_nil)))
 (fun at_1 => (b_for (lpS := fun s2 : Int => [.rf q, .val (rpL (i := rpI)) y.1, .val rpI s2, .no]) at_1 (.cons (.refl _) (.cons (.refl _) (.cons (.refl _) (.cons (.refl _) .nil)))) (passes_of rfl) rfl (i_rng1 (by rfl) T.f_range (a_cons (e_cb len_L T.f_len (a_cons (e_var 1 rfl) a_nil)) a_nil)) (g_name 3 nd)
 (fun x3 s2 => (b_if (mid := fun s4 : Unit => [.rf q, .val (rpL (i := rpI)) y.1, .val rpI s2, .val rpI x3]) (t_cmp lt_I (e_var 2 rfl) (e_ix ix_L (e_var 1 rfl) (e_var 3 rfl)) (nomark _))
 (b_ret (e_var 3 rfl))
 (b_nil () (.cons (.refl _) (.cons (.refl _) (.cons (.refl _) (.cons (.refl _) .nil)))))
 (fun s4 => (b_set 2 nd (e_op sub_I (e_var 2 rfl) (e_ix ix_L (e_var 1 rfl) (e_var 3 rfl)))
 (fun at_5 => (b_nil at_5 (.cons (.refl _) (.cons (.refl _) (.cons (.refl _) (.cons (.no _) .nil))))))))))
 (fun s2 => (b_ret e_int)))))⟩) ?_, F.bindsN fun _ _ _ _ _ _ us hl => match us, hl with | [_, _], _ => rfl⟩, F.kp, T.g_law_group⟩
  intro y post ep h
  dsimp only [endP, seqP, endI]
  obtain ⟨⟨h1, h2, h3⟩, h4⟩ := h
  have hb : y.1.sum ≤ 500 := by
    have : ∀ l : List Int, (∀ n ∈ l, 0 ≤ n ∧ n ≤ 100) → l.sum ≤ 100 * l.length := by
      intro l
      induction l with
      | nil => intro _; simp
      | cons a l ih =>
        intro h
        have := ih fun n hn => h n (List.mem_cons_of_mem _ hn)
        have := h a List.mem_cons_self
        rw [sum_cons', List.length_cons]
        omega
    have := this y.1 h2
    omega
  refine ⟨⟨h3, by omega⟩, fun r r0 r1 hl => ⟨⟨by omega, by omega⟩, ?_⟩⟩
  refine forR_ind (fun k s => 0 ≤ s ∧ s < (y.1.drop k).sum) (fun s hi => ?_) (fun k s next hk hn hi => ?_) _ ⟨r0, r1⟩
  · rw [List.drop_of_length_le (by omega)] at hi
    have := hi.2
    rw [sum_nil'] at this
    omega
  · have hk2 : k < y.1.length := by omega
    have e : atI y.1 (0 + (k : Int)) = some y.1[k] := by rw [atI_of (k := k) (by omega), List.getElem?_eq_getElem hk2]
    refine ⟨_, e, if_dd (fun h => ?_) fun h => ⟨_, e, hn _ ?_⟩⟩
    · have := h4 k y.1[k] (List.getElem?_eq_getElem hk2) (by omega)
      rw [show (0 + (k : Int)) = (k : Int) by omega]
      exact this
    · obtain ⟨i1, i2⟩ := hi
      rw [List.drop_eq_getElem_cons hk2, sum_cons'] at i2
      exact ⟨by omega, by omega⟩
theorem sc_law_rows : FnScope ["bag", "counts", "shape", "stem", "early", "left", "rows", "k", "group", "row", "name"] ["bag", "counts", "shape"] (defScope s_law_rows) := ⟨rfl, rfl, rfl, by decide +kernel, rfl, by decide +kernel, by decide +kernel⟩
theorem ok_law_rows (T : Txt w K mg) : Ok pw w K mg base "_law_rows" (He.fAd K ("_law_rows", none)) 3 ["bag", "counts", "shape"] (spR K (rsH 4) (fun q => (aRf q (aCons (rpL (i := rpI)) (aCons (rpL (i := rpI)) aNil)))) (rpL (i := rpRow)) (fun x post _ => (CountsOk x.1 ∧ ShapeOk x.2.1) ∧ ∀ rs : List Row, VRows rs → rs.length ≤ 60 → 0 < cnt rs PK → post rs)) := by
  obtain ⟨fd_law_stem, F_law_stem, B_law_stem⟩ := (ok_law_stem (w := w) (base := base) T).ex
  have K_law_stem := (ok_law_stem (w := w) (base := base) T).kp
  have G_law_stem := (ok_law_stem (w := w) (base := base) T).gm
  obtain ⟨fd_law_take, F_law_take, B_law_take⟩ := (ok_law_take (w := w) (base := base) T).ex
  have K_law_take := (ok_law_take (w := w) (base := base) T).kp
  have G_law_take := (ok_law_take (w := w) (base := base) T).gm
  obtain ⟨fd_law_group, F_law_group, B_law_group⟩ := (ok_law_group (w := w) (base := base) T).ex
  have K_law_group := (ok_law_group (w := w) (base := base) T).kp
  have G_law_group := (ok_law_group (w := w) (base := base) T).gm
  obtain ⟨fd_law_name, F_law_name, B_law_name⟩ := (ok_law_name (w := w) (base := base) T).ex
  have K_law_name := (ok_law_name (w := w) (base := base) T).kp
  have G_law_name := (ok_law_name (w := w) (base := base) T).gm
  obtain ⟨fd_law_place, F_law_place, B_law_place⟩ := (ok_law_place (w := w) (base := base) T).ex
  have K_law_place := (ok_law_place (w := w) (base := base) T).kp
  have G_law_place := (ok_law_place (w := w) (base := base) T).gm
  obtain ⟨fd_law_link, F_law_link, B_law_link⟩ := (ok_law_link (w := w) (base := base) T).ex
  have K_law_link := (ok_law_link (w := w) (base := base) T).kp
  have G_law_link := (ok_law_link (w := w) (base := base) T).gm
  obtain ⟨fd_law_instrument, F_law_instrument, B_law_instrument⟩ := (ok_law_instrument (w := w) (base := base) T).ex
  have K_law_instrument := (ok_law_instrument (w := w) (base := base) T).kp
  have G_law_instrument := (ok_law_instrument (w := w) (base := base) T).gm
  obtain ⟨fd, F⟩ := T.d_law_rows
  have nd := sc_law_rows.nd
  refine ⟨⟨fd, fn_okR F sc_law_rows (fun _ _ => rfl) (fun q y cdv A outer s H G E hr => ⟨_, (b_set 3 nd (e_callR rfl F_law_stem (hr.mono (by decide)) G_law_stem K_law_stem B_law_stem (takes_of rfl rfl rfl rfl) (a_rf 0 rfl a_nil))
 (fun stem_1 => (b_set 4 nd e_int
 (fun early_2 => (b_ifJ (mid := fun s3 : Int => [.rf q, .val (rpL (i := rpI)) y.1, .val (rpL (i := rpI)) y.2.1, .val rpS stem_1, .val rpI s3, .no, .no, .no, .no, .no, .no]) (JT.cut (t_pw (tw_or (t_cmp eq_V (e_ix ix_L (e_var 2 rfl) e_int) e_int (nomark _)) (tw_or1 (t_cmp eq_V (e_callR rfl F_law_take (hr.mono (by decide)) G_law_take K_law_take B_law_take (takes_of rfl rfl rfl rfl) (a_rf 0 rfl (a_cons e_int a_nil))) e_int (nomark _))))))
 (b_set 4 nd (e_ix ix_L (e_var 1 rfl) e_int)
 (fun early_4 => (b_nil early_4 (.cons (.refl _) (.cons (.refl _) (.cons (.refl _) (.cons (.refl _) (.cons (.refl _) (.cons (.refl _) (.cons (.refl _) (.cons (.refl _) (.cons (.refl _) (.cons (.refl _) (.cons (.refl _) .nil))))))))))))))
 (b_nil early_2 (.cons (.refl _) (.cons (.refl _) (.cons (.refl _) (.cons (.refl _) (.cons (.refl _) (.cons (.refl _) (.cons (.refl _) (.cons (.refl _) (.cons (.refl _) (.cons (.refl _) (.cons (.refl _) .nil))))))))))))
 (fun s3 => (b_own 5 nd (jf_lstL T.f_list (e_var 1 rfl))
 (fun m5 => (b_new rpRow 6 nd (b_for (lpS := fun s6 : (List Int) × (List Row) => [.rf q, .val (rpL (i := rpI)) y.1, .val (rpL (i := rpI)) y.2.1, .val rpS stem_1, .val rpI s3, .ml rpI s6.1, .ml rpRow s6.2, .no, .no, .no, .no]) (m5, []) (.cons (.refl _) (.cons (.refl _) (.cons (.refl _) (.cons (.refl _) (.cons (.refl _) (.cons (.refl _) (.cons (.refl _) (.cons (.refl _) (.cons (.refl _) (.cons (.refl _) (.cons (.refl _) .nil))))))))))) (passes_of rfl) rfl (i_rng1 (by rfl) T.f_range (a_cons (e_cb (sum_L rfl) T.f_sum (a_cons (e_var 1 rfl) a_nil)) a_nil)) (g_name 7 nd)
 (fun x7 s6 => (b_set 8 nd e_int
 (fun group_8 => (b_ifJ (mid := fun s9 : Int => [.rf q, .val (rpL (i := rpI)) y.1, .val (rpL (i := rpI)) y.2.1, .val rpS stem_1, .val rpI s3, .ml rpI s6.1, .ml rpRow s6.2, .val rpI x7, .val rpI s9, .no, .no]) (t_lend (lend_ml 5 rfl) (JT.cut (t_pw (tw_or (t_cmp ge_I (e_var 7 rfl) (e_var 4 rfl) (nomark _)) (tw_or1 (t_cmp eq_V (e_ix ix_L (e_var 5 rfl) e_int) e_int (nomark _)))))))
 (b_set 8 nd (e_lend (lend_ml 5 rfl) (e_callR rfl F_law_group (hr.mono (by decide)) G_law_group K_law_group B_law_group (takes_of rfl rfl rfl rfl) (a_rf 0 rfl (a_cons (e_var 5 rfl) a_nil))))
 (fun group_10 => (b_nil group_10 (.cons (.refl _) (.cons (.refl _) (.cons (.refl _) (.cons (.refl _) (.cons (.refl _) (.cons (.refl _) (.cons (.refl _) (.cons (.refl _) (.cons (.refl _) (.cons (.refl _) (.cons (.refl _) .nil))))))))))))))
 (b_nil group_8 (.cons (.refl _) (.cons (.refl _) (.cons (.refl _) (.cons (.refl _) (.cons (.refl _) (.cons (.refl _) (.cons (.refl _) (.cons (.refl _) (.cons (.refl _) (.cons (.refl _) (.cons (.refl _) .nil))))))))))))
 (fun s9 => (b_setM 5 rfl (e_lend (lend_ml 5 rfl) (e_op sub_I (e_ix ix_L (e_var 5 rfl) (e_var 8 rfl)) e_int)) (e_var 8 rfl)
 (fun m11 k12 => (b_set 10 nd (e_lend (lend_ml 6 rfl) (e_callR rfl F_law_name (hr.mono (by decide)) G_law_name K_law_name B_law_name (takes_of rfl rfl rfl rfl) (a_rf 0 rfl (a_cons (e_lc rfl nd (blkOk_by (own := [("row", 9)]) (by show blkC ["bag", "counts", "shape", "stem", "early", "left", "rows", "k", "group", "row", "name"] (defScope s_law_rows) _ _ = true; decide +kernel)) (by decide) rfl (i_lst (e_var 6 rfl)) (fun _ _ _ _ _ => (g_name 9 nd)) (fun _ _ _ _ _ c14 => ts_nil) (fun _ _ _ _ _ c14 => (JE.conv (e_dn dnS (e_ix ix_T (e_up upRow (e_var 9 rfl)) e_int)) (by first | rfl | (dsimp only [Cx.blk] <;> rfl)) (by first | rfl | (dsimp only [Cx.blk] <;> rfl))))) (a_cons (e_var 3 rfl) a_nil)))))
 (fun name_13 => (b_ifJ (mid := fun s15 : (Tu Itm) => [.rf q, .val (rpL (i := rpI)) y.1, .val (rpL (i := rpI)) y.2.1, .val rpS stem_1, .val rpI s3, .ml rpI (setN s6.1 k12 m11), .ml rpRow s6.2, .val rpI x7, .val rpI s9, .val (rpT (i := rpU)) s15, .val rpS name_13]) (t_cmp eq_V (e_var 8 rfl) e_int (nomark _))
 (b_set 9 nd (e_lend (lend_ml 6 rfl) (e_callR rfl F_law_place (hr.mono (by decide)) G_law_place K_law_place B_law_place (takes_of rfl rfl rfl rfl) (a_rf 0 rfl (a_cons (e_var 6 rfl) (a_cons (e_var 2 rfl) (a_cons (e_var 10 rfl) a_nil))))))
 (fun row_16 => (b_nil row_16 (.cons (.refl _) (.cons (.refl _) (.cons (.refl _) (.cons (.refl _) (.cons (.refl _) (.cons (.refl _) (.cons (.refl _) (.cons (.refl _) (.cons (.refl _) (.cons (.refl _) (.cons (.refl _) .nil))))))))))))))
 (b_ifE (t_cmp eq_V (e_var 8 rfl) e_int (nomark _))
 (b_set 9 nd (e_lend (lend_ml 6 rfl) (e_callR rfl F_law_link (hr.mono (by decide)) G_law_link K_law_link B_law_link (takes_of rfl rfl rfl rfl) (a_rf 0 rfl (a_cons (e_var 6 rfl) (a_cons (e_var 2 rfl) (a_cons (e_var 10 rfl) a_nil))))))
 (fun row_17 => (b_nil row_17 (.cons (.refl _) (.cons (.refl _) (.cons (.refl _) (.cons (.refl _) (.cons (.refl _) (.cons (.refl _) (.cons (.refl _) (.cons (.refl _) (.cons (.refl _) (.cons (.refl _) (.cons (.refl _) .nil))))))))))))))
 (b_set 9 nd (e_lend (lend_ml 6 rfl) (e_callR rfl F_law_instrument (hr.mono (by decide)) G_law_instrument K_law_instrument B_law_instrument (takes_of rfl rfl rfl rfl) (a_rf 0 rfl (a_cons (e_var 6 rfl) (a_cons (e_var 8 rfl) (a_cons (e_var 10 rfl) a_nil))))))
 (fun row_18 => (b_nil row_18 (.cons (.refl _) (.cons (.refl _) (.cons (.refl _) (.cons (.refl _) (.cons (.refl _) (.cons (.refl _) (.cons (.refl _) (.cons (.refl _) (.cons (.refl _) (.cons (.refl _) (.cons (.refl _) .nil)))))))))))))))
 (fun s15 => (b_ifE (t_cmp gt_I (e_cb len_T T.f_len (a_cons (e_var 9 rfl) a_nil)) e_int (nomark _))
 (b_app1 6 rfl (e_dn dnRow (e_var 9 rfl))
 (fun m19 => (b_nil ((setN s6.1 k12 m11), (s6.2 ++ [m19])) (.cons (.refl _) (.cons (.refl _) (.cons (.refl _) (.cons (.refl _) (.cons (.refl _) (.cons (.refl _) (.cons (.refl _) (.cons (.no _) (.cons (.no _) (.cons (.no _) (.cons (.no _) .nil))))))))))))))
 (b_nil ((setN s6.1 k12 m11), s6.2) (.cons (.refl _) (.cons (.refl _) (.cons (.refl _) (.cons (.refl _) (.cons (.refl _) (.cons (.refl _) (.cons (.refl _) (.cons (.no _) (.cons (.no _) (.cons (.no _) (.cons (.no _) .nil))))))))))))))))))))))))
 (fun s6 => (b_frz 6 rfl (b_ret (e_var 6 rfl))))))))))))))⟩) ?_, F.bindsN fun _ _ _ _ _ _ us hl => match us, hl with | [_, _, _], _ => rfl⟩, F.kp, T.g_law_rows⟩
  intro y post ep h
  dsimp only [endP, seqP, endI]
  obtain ⟨⟨⟨c0, c1, c2, c3, c4, ec, b0, b1, b2, b3, b4⟩, hsh⟩, hp⟩ := h
  obtain ⟨cs, sh, u⟩ := y
  dsimp only at ec hsh ⊢
  subst ec
  have hz := sz
  have esum : ∀ a b c d e : Int, ([a, b, c, d, e] : List Int).sum = a + b + c + d + e := fun a b c d e => by simp only [sum_cons', sum_nil']; omega
  intro stem hstem
  refine ex_J (fun early => 1 ≤ early) (cutA ?_ fun k => ?_) fun early he => ?_
  · obtain ⟨b, c, d, e, hc⟩ := hsh
    subst e
    exact ⟨_, rfl, if_dd (fun _ => trivial) fun _ => ⟨⟨by decide, by decide⟩, fun _ _ _ => trivial⟩⟩
  · cases k with
    | true => exact if_t ⟨_, rfl, nx_in (by omega)⟩
    | false => exact if_f (nx_in (by decide))
  refine ⟨⟨by rw [esum]; omega, by rw [esum]; omega⟩, ?_⟩
  refine forR_ind (fun k (s : List Int × List Row) => VRows s.2 ∧ ∃ a b c d e : Int, s.1 = [a, b, c, d, e] ∧ (0 ≤ a ∧ 0 ≤ b ∧ 0 ≤ c ∧ 0 ≤ d ∧ 0 ≤ e) ∧ a + b + c + d + e + k = c0 + c1 + c2 + c3 + c4 ∧ a + cnt s.2 PK = c0 ∧ b + cnt s.2 LK ≤ c1 ∧ c + cnt s.2 ["tap"] ≤ c2 ∧ d + cnt s.2 ["pump"] ≤ c3 ∧ e + cnt s.2 ["meter"] ≤ c4) (fun s hi => ?_) (fun k s next hk hn hi => ?_) _ ⟨.nil, c0, c1, c2, c3, c4, rfl, by omega, by omega, by show c0 + 0 = c0; omega, by show c1 + 0 ≤ c1; omega, by show c2 + 0 ≤ c2; omega, by show c3 + 0 ≤ c3; omega, by show c4 + 0 ≤ c4; omega⟩
  · obtain ⟨hv, a, b, c, d, e, _, pos, hs, ha, _⟩ := hi
    rw [esum] at hs
    have fw := hv.few
    exact ⟨by omega, hp s.2 hv (by omega) (by omega)⟩
  rw [esum] at hk
  obtain ⟨hv, a, b, c, d, e, el, pos, hs, ha, hb, hc, hd, hme⟩ := hi
  obtain ⟨left, rows⟩ := s
  dsimp only at el hv ha hb hc hd hme ⊢
  subst el
  have fw := hv.few
  refine ex_J (fun g => (g = 0 ∧ 0 < a) ∨ (g = 1 ∧ 0 < b) ∨ (g = 2 ∧ 0 < c) ∨ (g = 3 ∧ 0 < d) ∨ (g = 4 ∧ 0 < e)) ⟨len5, cutJ (fun q => q = false → 0 < a) (if_dd (fun _ => fun z => nomatch z) fun _ => ⟨a, rfl, fun z => by have := of_decide_eq_false z; omega⟩) fun q hq => ?_⟩ fun g hg => ?_
  · cases q with
    | false => exact if_f (nx_in (.inl ⟨rfl, hq rfl⟩))
    | true =>
      refine if_t ⟨len5, ⟨rfl, fun n hn => ?_, by rw [esum]; omega⟩, fun j n hj hn => nx_in ?_⟩
      · simp only [List.mem_cons, List.not_mem_nil, or_false] at hn
        rcases hn with rfl | rfl | rfl | rfl | rfl <;> omega
      · rcases j with _ | _ | _ | _ | _ | j
        · cases hj; exact .inl ⟨rfl, hn⟩
        · cases hj; exact .inr (.inl ⟨rfl, hn⟩)
        · cases hj; exact .inr (.inr (.inl ⟨rfl, hn⟩))
        · cases hj; exact .inr (.inr (.inr (.inl ⟨rfl, hn⟩)))
        · cases hj; exact .inr (.inr (.inr (.inr ⟨rfl, hn⟩)))
        · cases hj
  have gx : ∃ m, atI [a, b, c, d, e] g = some m ∧ (ixN [a, b, c, d, e].length g).isSome = true ∧ ∃ a' b' c' d' e', setN [a, b, c, d, e] g (m - 1) = [a', b', c', d', e'] ∧ a' + b' + c' + d' + e' + 1 = a + b + c + d + e ∧ (0 ≤ a' ∧ 0 ≤ b' ∧ 0 ≤ c' ∧ 0 ≤ d' ∧ 0 ≤ e') ∧ a' = (if g = 0 then a - 1 else a) ∧ b' = (if g = 1 then b - 1 else b) ∧ c' = (if g = 2 then c - 1 else c) ∧ d' = (if g = 3 then d - 1 else d) ∧ e' = (if g = 4 then e - 1 else e) := by
    rcases hg with ⟨rfl, h⟩ | ⟨rfl, h⟩ | ⟨rfl, h⟩ | ⟨rfl, h⟩ | ⟨rfl, h⟩
    · exact ⟨a, rfl, rfl, a - 1, b, c, d, e, rfl, by omega, by omega, rfl, rfl, rfl, rfl, rfl⟩
    · exact ⟨b, rfl, rfl, a, b - 1, c, d, e, rfl, by omega, by omega, rfl, rfl, rfl, rfl, rfl⟩
    · exact ⟨c, rfl, rfl, a, b, c - 1, d, e, rfl, by omega, by omega, rfl, rfl, rfl, rfl, rfl⟩
    · exact ⟨d, rfl, rfl, a, b, c, d - 1, e, rfl, by omega, by omega, rfl, rfl, rfl, rfl, rfl⟩
    · exact ⟨e, rfl, rfl, a, b, c, d, e - 1, rfl, by omega, by omega, rfl, rfl, rfl, rfl, rfl⟩
  obtain ⟨m, gm, gi, a', b', c', d', e', es, hsum, pos', ea, eb, ec, ed, ee⟩ := gx
  refine ⟨len5, m, gm, gi, by omega, fun hl => ⟨hl, lcAll Row.name _ (fun _ _ _ _ p => p) (fun r _ P ep p => ⟨_, enc1 r, _, rfl, p⟩) ⟨⟨hstem, by rw [List.length_map]; omega⟩, fun n nok nin => ?_⟩⟩⟩
  have new : kindOf rows n = "" := kindOf_none fun r hr z => nin (List.mem_map.mpr ⟨r, hr, z⟩)
  have nw : NewOk rows n := ⟨hv, by omega, nok, new⟩
  refine ex_J (fun t : Tu Itm => (t = ⟨[]⟩ ∧ g ≠ 0) ∨ ∃ r : Row, t = r.enc ∧ VRow rows r ∧ ((g = 0 ∧ r.kind ∈ PK) ∨ (g = 1 ∧ r.kind ∈ LK) ∨ (g = 2 ∧ r.kind = "tap") ∨ (g = 3 ∧ r.kind = "pump") ∨ (g = 4 ∧ r.kind = "meter"))) (if_dd (fun g0 => ⟨by omega, ⟨nw, hsh, by omega⟩, fun r v k _ => nx_in (.inr ⟨r, rfl, v, .inl ⟨g0, k⟩⟩)⟩) fun g0 => if_dd (fun g1 => ⟨by omega, ⟨nw, hsh, by omega⟩, nx_in (.inl ⟨rfl, g0⟩), fun r v k _ => nx_in (.inr ⟨r, rfl, v, .inr (.inl ⟨g1, k⟩)⟩)⟩) fun g1 => ⟨by omega, ⟨nw, by omega, by omega, by omega⟩, nx_in (.inl ⟨rfl, g0⟩), fun r v k _ => nx_in (.inr ⟨r, rfl, v, .inr (.inr k)⟩)⟩) fun t ht _ => ?_
  rw [es]
  have he1 : a' + b' + c' + d' + e' + ((k + 1 : Nat) : Int) = c0 + c1 + c2 + c3 + c4 := by omega
  rcases ht with ⟨rfl, g0⟩ | ⟨r, rfl, v, hk⟩
  · refine if_dF (by decide) (hn _ ⟨hv, a', b', c', d', e', rfl, pos', he1, ?_, ?_, ?_, ?_, ?_⟩)
    · rw [ea, if_neg g0]; exact ha
    · rw [eb]; split <;> dsimp only <;> omega
    · rw [ec]; split <;> dsimp only <;> omega
    · rw [ed]; split <;> dsimp only <;> omega
    · rw [ee]; split <;> dsimp only <;> omega
  · have pos : (0 : Int) < r.enc.l.length := by cases r <;> simp [Row.enc]
    refine if_dT pos ⟨r, rfl, by omega, hn _ ⟨hv.snoc v, a', b', c', d', e', rfl, pos', he1, ?_⟩⟩
    show a' + (cnt (rows ++ [r]) PK : Int) = c0 ∧ b' + (cnt (rows ++ [r]) LK : Int) ≤ c1 ∧ c' + (cnt (rows ++ [r]) ["tap"] : Int) ≤ c2 ∧ d' + (cnt (rows ++ [r]) ["pump"] : Int) ≤ c3 ∧ e' + (cnt (rows ++ [r]) ["meter"] : Int) ≤ c4
    rw [cnt_snoc, cnt_snoc, cnt_snoc, cnt_snoc, cnt_snoc]
    have one : (g = 0 ∧ r.kind ∈ PK) ∨ (g = 1 ∧ r.kind ∈ LK) ∨ (g = 2 ∧ r.kind ∈ ([("tap" : Str)])) ∨ (g = 3 ∧ r.kind ∈ ([("pump" : Str)])) ∨ (g = 4 ∧ r.kind ∈ ([("meter" : Str)])) := by simpa only [List.mem_singleton] using hk
    rcases one with ⟨rfl, z⟩ | ⟨rfl, z⟩ | ⟨rfl, z⟩ | ⟨rfl, z⟩ | ⟨rfl, z⟩ <;> simp at ea eb ec ed ee <;> subst ea eb ec ed ee
    · obtain ⟨t1, t2, t3, t4⟩ := kPK r z
      rw [if_pos z, if_neg t1, if_neg t2, if_neg t3, if_neg t4]
      omega
    · obtain ⟨t1, t2, t3, t4⟩ := kLK r z
      rw [if_pos z, if_neg t1, if_neg t2, if_neg t3, if_neg t4]
      omega
    · obtain ⟨t1, t2, t3, t4⟩ := kTap r z
      rw [if_pos z, if_neg t1, if_neg t2, if_neg t3, if_neg t4]
      omega
    · obtain ⟨t1, t2, t3, t4⟩ := kPump r z
      rw [if_pos z, if_neg t1, if_neg t2, if_neg t3, if_neg t4]
      omega
    · obtain ⟨t1, t2, t3, t4⟩ := kMeter r z
      rw [if_pos z, if_neg t1, if_neg t2, if_neg t3, if_neg t4]
      omega
theorem sc_law_far : FnScope ["rows", "counted", "row", "links", "far", "turn", "moved", "price", "way"] ["rows", "counted"] (defScope s_law_far) := ⟨rfl, rfl, rfl, by decide +kernel, rfl, by decide +kernel, by decide +kernel⟩
theorem ok_law_far (T : Txt w K mg) : Ok pw w K mg base "_law_far" (He.fAd K ("_law_far", none)) 1 ["rows", "counted"] (spOf K rs0 (aCons (rpL (i := rpRow)) (aCons (rpL (i := rpS)) aNil)) (rpDi (i := rpI)) (fun x post _ => (VRows x.1 ∧ x.1.length ≤ 60) ∧ ∀ far, FarOk x.1 x.2.1 far → post ⟨far⟩)) := by
  obtain ⟨fd, F⟩ := T.d_law_far
  have nd := sc_law_far.nd
  refine ⟨⟨fd, fn_ok F sc_law_far (fun _ => rfl) (fun y cdv A outer s H G E hr => ⟨_, (b_setLc 3 rfl nd (blkOk_by (own := [("row", 2)]) (by show blkC ["rows", "counted", "row", "links", "far", "turn", "moved", "price", "way"] (defScope s_law_far) _ _ = true; decide +kernel)) (by decide) rfl (i_lst (e_var 0 rfl)) (fun _ _ _ _ _ => (g_name 2 nd)) (fun _ _ _ _ _ c2 => (JTs.conv (ts_one (t_cmp in_T (e_dn dnS (e_ix ix_T (e_up upRow (e_var 2 rfl)) e_int)) (e_tupT (a_cons e_str (a_cons e_str a_nil)) (.cons (.cons .nil))) rfl)) (by first | rfl | (dsimp only [Cx.blk] <;> rfl)) (by first | rfl | (dsimp only [Cx.blk] <;> rfl)))) (fun _ _ _ _ _ c2 => (e_var 2 rfl))
 (fun links_1 => (b_newD rpI 4 nd (b_for (lpS := fun s3 : (List (Key × Int)) => [.val (rpL (i := rpRow)) y.1, .val (rpL (i := rpS)) y.2.1, .no, .val (rpL (i := rpRow)) links_1, .md rpI s3, .no, .no, .no, .no]) [] (.cons (.refl _) (.cons (.refl _) (.cons (.refl _) (.cons (.refl _) (.cons (.refl _) (.cons (.refl _) (.cons (.refl _) (.cons (.refl _) (.cons (.refl _) .nil))))))))) (passes_of rfl) rfl (i_lst (e_var 0 rfl)) (g_name 2 nd)
 (fun x4 s3 => (b_ifE (t_cmp in_T (e_dn dnS (e_ix ix_T (e_up upRow (e_var 2 rfl)) e_int)) (e_tupT (a_cons e_str (a_cons e_str a_nil)) (.cons (.cons .nil))) rfl)
 (b_putD 4 rfl (by exact HU1 hr) e_int (e_dn dnS (e_ix ix_T (e_up upRow (e_var 2 rfl)) e_int))
 (fun m5 k6 => (b_nil (putM s3 (Sum.inr k6) m5) (.cons (.refl _) (.cons (.refl _) (.cons (.no _) (.cons (.refl _) (.cons (.refl _) (.cons (.refl _) (.cons (.refl _) (.cons (.refl _) (.cons (.refl _) .nil))))))))))))
 (b_nil s3 (.cons (.refl _) (.cons (.refl _) (.cons (.no _) (.cons (.refl _) (.cons (.refl _) (.cons (.refl _) (.cons (.refl _) (.cons (.refl _) (.cons (.refl _) .nil))))))))))))
 (fun s3 => (b_for (lpS := fun s7 : (List (Key × Int)) => [.val (rpL (i := rpRow)) y.1, .val (rpL (i := rpS)) y.2.1, .no, .val (rpL (i := rpRow)) links_1, .md rpI s7, .no, .no, .no, .no]) s3 (.cons (.refl _) (.cons (.refl _) (.cons (.refl _) (.cons (.refl _) (.cons (.refl _) (.cons (.refl _) (.cons (.refl _) (.cons (.refl _) (.cons (.refl _) .nil))))))))) (passes_of rfl) rfl (i_rng1 (by rfl) T.f_range (a_cons e_int a_nil)) (g_name 5 nd)
 (fun x8 s7 => (b_set 6 nd e_bool
 (fun moved_9 => (b_for (lpS := fun s10 : (List (Key × Int)) × Bool => [.val (rpL (i := rpRow)) y.1, .val (rpL (i := rpS)) y.2.1, .no, .val (rpL (i := rpRow)) links_1, .md rpI s10.1, .val rpI x8, .val rpB s10.2, .no, .no]) (s7, moved_9) (.cons (.refl _) (.cons (.refl _) (.cons (.refl _) (.cons (.refl _) (.cons (.refl _) (.cons (.refl _) (.cons (.refl _) (.cons (.refl _) (.cons (.refl _) .nil))))))))) (passes_of rfl) rfl (i_lst (e_var 3 rfl)) (g_name 2 nd)
 (fun x11 s10 => (b_set 7 nd (e_ct int_B T.f_int (a_cons (e_cmp in_L (e_dn dnS (e_ix ix_T (e_up upRow (e_var 2 rfl)) e_int)) (e_var 1 rfl) rfl) a_nil))
 (fun price_12 => (b_for (lpS := fun s13 : (List (Key × Int)) × Bool => [.val (rpL (i := rpRow)) y.1, .val (rpL (i := rpS)) y.2.1, .val rpRow x11, .val (rpL (i := rpRow)) links_1, .md rpI s13.1, .val rpI x8, .val rpB s13.2, .val rpI price_12, .no]) (s10.1, s10.2) (.cons (.refl _) (.cons (.refl _) (.cons (.refl _) (.cons (.refl _) (.cons (.refl _) (.cons (.refl _) (.cons (.refl _) (.cons (.refl _) (.cons (.refl _) .nil))))))))) (passes_of rfl) rfl (i_tpl (e_tupT (a_cons (e_tup2 (a_cons (e_dn dnS (e_ix ix_T (e_up upRow (e_var 2 rfl)) e_int)) (a_cons (e_dn dnS (e_ix ix_T (e_up upRow (e_var 2 rfl)) e_int)) a_nil))) (a_cons (e_tup2 (a_cons (e_dn dnS (e_ix ix_T (e_up upRow (e_var 2 rfl)) e_int)) (a_cons (e_dn dnS (e_ix ix_T (e_up upRow (e_var 2 rfl)) e_int)) a_nil))) a_nil)) (.cons (.cons .nil)))) (g_name 8 nd)
 (fun x14 s13 => (b_ifE (t_lend (lend_md 4 rfl) (JT.cut (t_pw (tw_and (t_inDi (by exact HU1 hr) (e_ix ix_2a (e_var 8 rfl) e_int) (e_var 4 rfl)) (tw_and1 (t_cmp gt_I (e_get2 (by exact HU1 hr) (e_var 4 rfl) (e_ix ix_2b (e_var 8 rfl) e_int) e_int ⟨rfl, rfl, rfl, rfl⟩) (e_op add_I (e_get (by exact HU1 hr) (e_var 4 rfl) (e_ix ix_2a (e_var 8 rfl) e_int)) (e_var 7 rfl)) (nomark _)))))))
 (b_putD 4 rfl (by exact HU1 hr) (e_lend (lend_md 4 rfl) (e_op add_I (e_get (by exact HU1 hr) (e_var 4 rfl) (e_ix ix_2a (e_var 8 rfl) e_int)) (e_var 7 rfl))) (e_ix ix_2b (e_var 8 rfl) e_int)
 (fun m15 k16 => (b_set 6 nd e_bool
 (fun moved_17 => (b_nil ((putM s13.1 (Sum.inr k16) m15), moved_17) (.cons (.refl _) (.cons (.refl _) (.cons (.refl _) (.cons (.refl _) (.cons (.refl _) (.cons (.refl _) (.cons (.refl _) (.cons (.refl _) (.cons (.no _) .nil))))))))))))))
 (b_nil (s13.1, s13.2) (.cons (.refl _) (.cons (.refl _) (.cons (.refl _) (.cons (.refl _) (.cons (.refl _) (.cons (.refl _) (.cons (.refl _) (.cons (.refl _) (.cons (.no _) .nil))))))))))))
 (fun s13 => (b_nil (s13.1, s13.2) (.cons (.refl _) (.cons (.refl _) (.cons (.no _) (.cons (.refl _) (.cons (.refl _) (.cons (.refl _) (.cons (.refl _) (.cons (.no _) (.cons (.refl _) .nil)))))))))))))))
 (fun s10 => (b_ifE (t_not (t_val (e_var 6 rfl)))
 (b_frzD 4 rfl (b_ret (e_var 4 rfl)))
 (b_nil s10.1 (.cons (.refl _) (.cons (.refl _) (.cons (.refl _) (.cons (.refl _) (.cons (.refl _) (.cons (.no _) (.cons (.no _) (.cons (.refl _) (.cons (.refl _) .nil))))))))))))))))
 (fun s7 => (b_frzD 4 rfl (b_ret (e_var 4 rfl))))))))))⟩) ?_, F.bindsN fun _ _ _ _ _ _ us hl => match us, hl with | [_, _], _ => rfl⟩, F.kp, T.g_law_far⟩
  intro y post ep h
  dsimp only [endP, seqP, endI]
  obtain ⟨⟨hv, h60⟩, hp⟩ := h
  have hz := sz
  have fw := hv.few
  intro _
  refine ⟨by omega, lcP_eq (fun r => decide (r.kind ∈ LK)) (fun r => r) _ (fun r hr P ep p => ⟨_, enc0 r, _, rfl, len2, by rw [any_mem]; exact p⟩) (fun r hr _ P ep p => p) ?_⟩
  rw [List.map_id']
  intro _
  refine forP_ind (fun rest (s : List (Key × Int)) => FarI y.1 s ∧ (∀ kv ∈ s, kv.2 = 0) ∧ (∀ r ∈ rest, r ∈ y.1) ∧ ∀ r ∈ y.1, r.kind ∈ FK → r ∈ rest ∨ valM s (.inr r.name) = some 0) (fun s hi => ?_) (fun r rest s next hn hi => ?_) _ _ ⟨⟨List.nodup_nil, fun _ h => (nomatch h), fun _ h => (nomatch h)⟩, fun _ h => (nomatch h), fun _ h => h, fun r hr _ => .inl hr⟩
  · obtain ⟨i1, _, _, i2⟩ := hi
    have m0 : Met y.1 y.2.1 0 s := by
      intro a ps ha _ hl
      obtain ⟨r, r1, r2, r3⟩ := mem_nms.mp ha
      obtain rfl : ps = [] := List.eq_nil_of_length_eq_zero (by omega)
      rcases i2 r r1 r2 with z | z
      · cases z
      · rw [r3] at z
        exact ⟨0, z, Int.le_refl _⟩
    refine ⟨⟨by decide, by decide⟩, ?_⟩
    refine forR_ind (fun k (s : List (Key × Int)) => FarI y.1 s ∧ Met y.1 y.2.1 k s) (fun s hi => ⟨by have := hi.1.few hv; omega, hp s (met_far hv hi.2 hi.1)⟩) (fun k s0 next hk hn hi => ?_) _ ⟨i1, m0⟩
    obtain ⟨j1, j2⟩ := hi
    intro _
    refine forP_ind (fun rest (s : List (Key × Int) × Bool) => FarI y.1 s.1 ∧ fle s0 s.1 ∧ (s.2 = false → s.1 = s0) ∧ (∀ r ∈ rest, r ∈ y.1 ∧ r.kind ∈ LK) ∧ ∀ r ∈ y.1, r.kind ∈ LK → r ∈ rest ∨ ∀ a b, (r.ends = some (a, b) ∨ r.ends = some (b, a)) → Rlx s0 s.1 a b (if r.name ∈ y.2.1 then 1 else 0)) (fun s hi => ?_) (fun r rest s next' hn' hi => ?_) _ _ ⟨j1, fle.refl _, fun _ => rfl, fun r hr => by obtain ⟨a, b⟩ := List.mem_filter.mp hr; exact ⟨a, of_decide_eq_true b⟩, fun r hr hk => .inl (List.mem_filter.mpr ⟨hr, decide_eq_true hk⟩)⟩
    · obtain ⟨q1, q2, q3, _, q4⟩ := hi
      have all : AllR y.1 y.2.1 s0 s.1 := fun r hr hk => by
        rcases q4 r hr hk with z | z
        · cases z
        · exact z
      cases e : s.2 with
      | false =>
        have e2 := q3 e
        refine if_nf ⟨by have := q1.few hv; omega, hp s.1 (met_far hv (met_fix hv ?_ ?_ 16) q1)⟩
        · intro a ps ha hc hl
          rw [e2]
          obtain ⟨u, u1, u2⟩ := j2 a ps ha hc (by omega)
          exact ⟨u, u1, u2⟩
        · rw [e2] at all ⊢
          exact all
      | true => exact if_nt (hn _ ⟨q1, met_step hv j2 q2 all⟩)
    · obtain ⟨q1, q2, q3, q4, q5⟩ := hi
      obtain ⟨hr, hk⟩ := q4 r List.mem_cons_self
      obtain ⟨a, b, ea, eb, ee⟩ : ∃ a b, atI r.enc.l 2 = some (.s a) ∧ atI r.enc.l 3 = some (.s b) ∧ r.ends = some (a, b) := by
        cases r with
        | pipe n a b => exact ⟨a, b, rfl, rfl, rfl⟩
        | valve n a b p c => exact ⟨a, b, rfl, rfl, rfl⟩
        | _ => exact absurd hk (by simp only [Row.kind]; decide)
      obtain ⟨pa, pb, _⟩ := ends_pl hv hr ee
      refine ⟨_, enc1 r, _, rfl, _, ea, a, rfl, _, eb, b, rfl, _, eb, b, rfl, _, ea, a, rfl, len2, fun _ => ?_⟩
      rw [any_mem y.2.1 r.name]
      generalize hpr : (if decide (r.name ∈ y.2.1) = true then (1 : Int) else 0) = p
      have hp01 : 0 ≤ p ∧ p ≤ 1 := by rw [← hpr]; split <;> omega
      have hpe : (if r.name ∈ y.2.1 then (1 : Int) else 0) = p := by
        rw [← hpr]
        by_cases z : r.name ∈ y.2.1
        · rw [if_pos z, if_pos (decide_eq_true z)]
        · rw [if_neg z, if_neg (by simpa using z)]
      refine forP_ind (fun rest' (s' : List (Key × Int) × Bool) => FarI y.1 s'.1 ∧ fle s0 s'.1 ∧ (s'.2 = false → s'.1 = s0) ∧ fle s.1 s'.1 ∧ (∀ w ∈ rest', w ∈ [(a, b), (b, a)]) ∧ ∀ w ∈ [(a, b), (b, a)], w ∈ rest' ∨ Rlx s.1 s'.1 w.1 w.2 p) (fun s' hi' => ?_) (fun w rest' s' nx hnx hi' => ?_) _ _ ⟨q1, q2, q3, fle.refl _, fun _ h => h, fun w hw => .inl hw⟩
      · obtain ⟨w1, w2, w3, w4, _, w5⟩ := hi'
        refine hn' _ ⟨w1, w2, w3, fun r' hr' => q4 r' (List.mem_cons_of_mem _ hr'), fun r' hr' hk' => ?_⟩
        rcases q5 r' hr' hk' with z | z
        · rcases List.mem_cons.mp z with rfl | z
          · refine .inr fun x t he => ?_
            rw [hpe]
            have ab : Rlx s.1 s'.1 a b p := by
              rcases w5 (a, b) (by simp) with z | z
              · cases z
              · exact z
            have ba : Rlx s.1 s'.1 b a p := by
              rcases w5 (b, a) (by simp) with z | z
              · cases z
              · exact z
            rw [ee] at he
            rcases he with he | he <;> cases he
            · exact ab.mono q2 (fle.refl _)
            · exact ba.mono q2 (fle.refl _)
          · exact .inl z
        · exact .inr fun x t he => (z x t he).mono (fle.refl _) w4
      · obtain ⟨w1, w2, w3, w4, w6, w5⟩ := hi'
        have hw := w6 w List.mem_cons_self
        have hw1 : w.1 ∈ nms PK y.1 ∧ w.2 ∈ nms PK y.1 := by
          simp only [List.mem_cons, List.not_mem_nil, or_false] at hw
          rcases hw with rfl | rfl
          · exact ⟨pa, pb⟩
          · exact ⟨pb, pa⟩
        have lim := w1.few hv
        have go : ∀ s2 : List (Key × Int) × Bool, FarI y.1 s2.1 → fle s'.1 s2.1 → (s2.2 = false → s2.1 = s0) → Rlx s'.1 s2.1 w.1 w.2 p → nx s2 := fun s2 g1 g2 g3 g4 => hnx _ ⟨g1, w2.trans g2, g3, w4.trans g2, fun v hv' => w6 v (List.mem_cons_of_mem _ hv'), fun v hv' => by
          rcases w5 v hv' with z | z
          · rcases List.mem_cons.mp z with rfl | z
            · exact .inr (g4.mono w4 (fle.refl _))
            · exact .inl z
          · exact .inr (z.mono (fle.refl _) g2)⟩
        refine ⟨by omega, cutJ (fun k => if k = true then ∃ m, valM s'.1 (.inr w.1) = some m ∧ m + p < (valM s'.1 (.inr w.2)).getD 99 else Rlx s'.1 s'.1 w.1 w.2 p) ⟨rfl, ?_⟩ fun k hk => ?_⟩
        · show if (valM s'.1 (.inr w.1)).isSome = true then _ else _
          cases e : valM s'.1 (.inr w.1) with
          | none => exact if_f (if_f (fun x hx => by rw [e] at hx; cases hx))
          | some m =>
            refine if_t ⟨rfl, rfl, m, rfl, ?_⟩
            by_cases z : m + p < (valM s'.1 (.inr w.2)).getD 99
            · rw [show decide (m + p < (valM s'.1 (KeyW.key rpS w.2)).getD 99) = true from decide_eq_true z]
              exact if_t ⟨m, rfl, z⟩
            · rw [show decide (m + p < (valM s'.1 (KeyW.key rpS w.2)).getD 99) = false from decide_eq_false z]
              exact if_f (rlx_stay w1 hv hp01.2 e z)
        · cases k with
          | false => exact if_f (go (s'.1, s'.2) w1 (fle.refl _) w3 hk)
          | true =>
            obtain ⟨m, m1, m2⟩ := hk
            obtain ⟨g1, g2, g3⟩ := rlx_put w1 hw1.2 hp01 m1 (fun y' hy => by rw [hy] at m2; exact m2)
            exact if_t ⟨by omega, rfl, m, m1, rfl, by omega, go (_, true) g1 g2 (fun e => nomatch e) g3⟩
  · obtain ⟨i1, i2, i3, i4⟩ := hi
    have hr := i3 r List.mem_cons_self
    have rest_in : ∀ q ∈ rest, q ∈ y.1 := fun q hq => i3 q (List.mem_cons_of_mem _ hq)
    have lim := i1.few hv
    refine ⟨_, enc0 r, _, rfl, len2, if_in (fun hk => ⟨_, enc1 r, _, rfl, by omega, hn _ ?_⟩) fun hk => hn _ ⟨i1, i2, rest_in, fun q hq hqk => ?_⟩⟩
    · have z0 : ∀ v, valM s (.inr r.name) = some v → (0 : Int) ≤ v := fun v hv' => (i1.bd _ (valM_mem hv')).1
      refine ⟨i1.put (feeder_pl (mem_nms.mpr ⟨r, hr, hk, rfl⟩)) (Int.le_refl _) (by omega) z0, fun kv hkv => ?_, rest_in, fun q hq hqk => ?_⟩
      · rcases put_mem hkv with rfl | hkv
        · rfl
        · exact i2 kv hkv
      · rcases i4 q hq hqk with z | z
        · rcases List.mem_cons.mp z with rfl | z
          · exact .inr (valM_put_same _ _ _)
          · exact .inl z
        · refine .inr ?_
          rw [valM_put]
          split
          · rfl
          · exact z
    · rcases i4 q hq hqk with z | z
      · rcases List.mem_cons.mp z with rfl | z
        · exact absurd hqk hk
        · exact .inl z
      · exact .inr z
theorem sc_law_least : FnScope ["rows", "part", "counted", "far", "least", "name"] ["rows", "part", "counted"] (defScope s_law_least) := ⟨rfl, rfl, rfl, by decide +kernel, rfl, by decide +kernel, by decide +kernel⟩
theorem ok_law_least (T : Txt w K mg) : Ok pw w K mg base "_law_least" (He.fAd K ("_law_least", none)) 2 ["rows", "part", "counted"] (spOf K rs0 (aCons (rpL (i := rpRow)) (aCons (rpT (i := rpS)) (aCons (rpL (i := rpS)) aNil))) rpI (fun x post _ => (VRows x.1 ∧ x.1.length ≤ 60) ∧ ∀ n : Int, LeastOk x.1 x.2.1.l x.2.2.1 n → post n)) := by
  obtain ⟨fd_law_far, F_law_far, B_law_far⟩ := (ok_law_far (w := w) (base := base) T).ex
  have K_law_far := (ok_law_far (w := w) (base := base) T).kp
  have G_law_far := (ok_law_far (w := w) (base := base) T).gm
  obtain ⟨fd, F⟩ := T.d_law_least
  have nd := sc_law_least.nd
  refine ⟨⟨fd, fn_ok F sc_law_least (fun _ => rfl) (fun y cdv A outer s H G E hr => ⟨_, (b_set 3 nd (e_call F_law_far (hr.mono (by decide)) G_law_far K_law_far B_law_far (takes_of rfl rfl rfl rfl) (a_cons (e_var 0 rfl) (a_cons (e_var 2 rfl) a_nil)))
 (fun far_1 => (b_set 4 nd (e_un neg_I e_int)
 (fun least_2 => (b_for (lpS := fun s3 : Int => [.val (rpL (i := rpRow)) y.1, .val (rpT (i := rpS)) y.2.1, .val (rpL (i := rpS)) y.2.2.1, .val (rpDi (i := rpI)) far_1, .val rpI s3, .no]) least_2 (.cons (.refl _) (.cons (.refl _) (.cons (.refl _) (.cons (.refl _) (.cons (.refl _) (.cons (.refl _) .nil)))))) (passes_of rfl) rfl (i_tpl (e_var 1 rfl)) (g_name 5 nd)
 (fun x4 s3 => (b_ifE (t_pw (tw_and (t_inDi (by exact HU1 hr) (e_var 5 rfl) (e_var 3 rfl)) (tw_and1 (t_pw (tw_or (t_cmp lt_I (e_var 4 rfl) e_int (nomark _)) (tw_or1 (t_cmp lt_I (e_get (by exact HU1 hr) (e_var 3 rfl) (e_var 5 rfl)) (e_var 4 rfl) (nomark _))))))))
 (b_set 4 nd (e_get (by exact HU1 hr) (e_var 3 rfl) (e_var 5 rfl))
 (fun least_5 => (b_nil least_5 (.cons (.refl _) (.cons (.refl _) (.cons (.refl _) (.cons (.refl _) (.cons (.refl _) (.cons (.no _) .nil)))))))))
 (b_nil s3 (.cons (.refl _) (.cons (.refl _) (.cons (.refl _) (.cons (.refl _) (.cons (.refl _) (.cons (.no _) .nil)))))))))
 (fun s3 => (b_ret (e_var 4 rfl))))))))⟩) ?_, F.bindsN fun _ _ _ _ _ _ us hl => match us, hl with | [_, _, _], _ => rfl⟩, F.kp, T.g_law_least⟩
  intro y post ep h
  dsimp only [endP, seqP, endI]
  obtain ⟨hv, hp⟩ := h
  refine ⟨hv, fun far hf _ => ?_⟩
  refine forP_ind (fun rest (s : Int) => (∀ k v, valM far k = some v → 0 ≤ v) ∧ ∀ path e, Walk (mkW y.1) path → path.getLast? = some e → e ∈ y.2.1.l → e ∈ rest ∨ (0 ≤ s ∧ s ≤ vcnt path y.2.2.1)) (fun s hi => ?_) (fun x r s next hn hi => ?_) _ _ ⟨hf.1, fun path e w he hm => .inl hm⟩
  · refine hp s fun path hq => ?_
    obtain ⟨w, e, he1, he2⟩ := hq
    rcases hi.2 path e w he2 he1 with z | z
    · cases z
    · exact z
  · obtain ⟨hi0, hi⟩ := hi
    have nx : ∀ s', (s' = s ∨ valM far (.inr x) = some s') → (∀ v, valM far (.inr x) = some v → 0 ≤ s' ∧ s' ≤ v) → (0 ≤ s → 0 ≤ s' ∧ s' ≤ s) → next s' := by
      intro s' h1 h2 h3
      refine hn _ ⟨hi0, fun path e w he hm => ?_⟩
      rcases hi path e w he hm with z | ⟨z1, z2⟩
      · rcases List.mem_cons.mp z with rfl | z
        · obtain ⟨v, v1, v2⟩ := hf.2 path e w he
          obtain ⟨a, b⟩ := h2 v v1
          exact .inr ⟨a, by omega⟩
        · exact .inl z
      · obtain ⟨a, b⟩ := h3 z1
        exact .inr ⟨a, by omega⟩
    show if (valM far (.inr x)).isSome = true then _ else _
    cases e : valM far (.inr x) with
    | none => exact if_f (if_f (nx s (.inl rfl) (fun v hv => by rw [e] at hv; cases hv) fun h => ⟨h, Int.le_refl _⟩))
    | some v =>
      have v0 := hi0 _ _ e
      refine if_t (if_dd (fun h => if_t ⟨v, rfl, nx v (.inr e) (fun u hu => by rw [e] at hu; cases hu; exact ⟨v0, Int.le_refl _⟩) (by omega)⟩) fun h => ⟨v, rfl, if_dd (fun h2 => ⟨v, rfl, nx v (.inr e) (fun u hu => by rw [e] at hu; cases hu; exact ⟨v0, Int.le_refl _⟩) (by omega)⟩) fun h2 => nx s (.inl rfl) (fun u hu => by rw [e] at hu; cases hu; exact ⟨by omega, by omega⟩) (by omega)⟩)
theorem sc_law_value : FnScope ["rows", "many", "paths", "value", "row", "load", "pair"] ["rows", "many", "paths"] (defScope s_law_value) := ⟨rfl, rfl, rfl, by decide +kernel, rfl, by decide +kernel, by decide +kernel⟩
theorem ok_law_value (T : Txt w K mg) : Ok pw w K mg base "_law_value" (He.fAd K ("_law_value", none)) 1 ["rows", "many", "paths"] (spOf K rs0 (aCons (rpL (i := rpRow)) (aCons rpI (aCons (rpT (i := (rp2 (i := (rpT (i := rpS))) (j := rpI)))) aNil))) rpI (fun x post _ => (VRows x.1 ∧ x.1.length ≤ 60 ∧ (1 ≤ x.2.1 ∧ x.2.1 ≤ 4) ∧ PairsOk x.1 12 x.2.2.1.l) ∧ post (valueOf (mkW x.1) x.2.1 x.2.2.1.l))) := by
  obtain ⟨fd, F⟩ := T.d_law_value
  have nd := sc_law_value.nd
  refine ⟨⟨fd, fn_ok F sc_law_value (fun _ => rfl) (fun y cdv A outer s H G E hr => ⟨_, (b_set 3 nd (e_op mul_I (e_var 1 rfl) (e_cb (sum_L rfl) T.f_sum (a_cons (e_lc rfl nd (blkOk_by (own := [("pair", 6)]) (by show blkC ["rows", "many", "paths", "value", "row", "load", "pair"] (defScope s_law_value) _ _ = true; decide +kernel)) (by decide) rfl (i_tpl (e_var 2 rfl)) (fun _ _ _ _ _ => (g_name 6 nd)) (fun _ _ _ _ _ c2 => ts_nil) (fun _ _ _ _ _ c2 => (JE.conv (e_ix ix_2b (e_var 6 rfl) e_int) (by first | rfl | (dsimp only [Cx.blk] <;> rfl)) (by first | rfl | (dsimp only [Cx.blk] <;> rfl))))) a_nil)))
 (fun value_1 => (b_for (lpS := fun s3 : Int => [.val (rpL (i := rpRow)) y.1, .val rpI y.2.1, .val (rpT (i := (rp2 (i := (rpT (i := rpS))) (j := rpI)))) y.2.2.1, .val rpI s3, .no, .no, .no]) value_1 (.cons (.refl _) (.cons (.refl _) (.cons (.refl _) (.cons (.refl _) (.cons (.refl _) (.cons (.refl _) (.cons (.refl _) .nil))))))) (passes_of rfl) rfl (i_lst (e_var 0 rfl)) (g_name 4 nd)
 (fun x4 s3 => (b_ifE (t_cmp eq_V (e_dn dnS (e_ix ix_T (e_up upRow (e_var 4 rfl)) e_int)) e_str (nomark _))
 (b_set 5 nd (e_cb (sum_L rfl) T.f_sum (a_cons (e_lc rfl nd (blkOk_by (own := [("pair", 6)]) (by show blkC ["rows", "many", "paths", "value", "row", "load", "pair"] (defScope s_law_value) _ _ = true; decide +kernel)) (by decide) rfl (i_tpl (e_var 2 rfl)) (fun _ _ _ _ _ => (g_name 6 nd)) (fun _ _ _ _ _ c6 => (JTs.conv (ts_one (t_cmp in_T (e_dn dnS (e_ix ix_T (e_up upRow (e_var 4 rfl)) e_int)) (e_ix ix_2a (e_var 6 rfl) e_int) rfl)) (by first | rfl | (dsimp only [Cx.blk] <;> rfl)) (by first | rfl | (dsimp only [Cx.blk] <;> rfl)))) (fun _ _ _ _ _ c6 => (JE.conv (e_ix ix_2b (e_var 6 rfl) e_int) (by first | rfl | (dsimp only [Cx.blk] <;> rfl)) (by first | rfl | (dsimp only [Cx.blk] <;> rfl))))) a_nil))
 (fun load_5 => (b_ifE (t_cmp gt_I (e_var 5 rfl) (e_dn dnI (e_ix ix_T (e_up upRow (e_var 4 rfl)) e_int)) (nomark _))
 (b_set 3 nd (e_op sub_I (e_var 3 rfl) (e_op sub_I (e_var 5 rfl) (e_dn dnI (e_ix ix_T (e_up upRow (e_var 4 rfl)) e_int))))
 (fun value_7 => (b_nil value_7 (.cons (.refl _) (.cons (.refl _) (.cons (.refl _) (.cons (.refl _) (.cons (.no _) (.cons (.no _) (.cons (.refl _) .nil))))))))))
 (b_nil s3 (.cons (.refl _) (.cons (.refl _) (.cons (.refl _) (.cons (.refl _) (.cons (.no _) (.cons (.no _) (.cons (.refl _) .nil)))))))))))
 (b_nil s3 (.cons (.refl _) (.cons (.refl _) (.cons (.refl _) (.cons (.refl _) (.cons (.no _) (.cons (.refl _) (.cons (.refl _) .nil))))))))))
 (fun s3 => (b_ret (e_var 3 rfl))))))⟩) ?_, F.bindsN fun _ _ _ _ _ _ us hl => match us, hl with | [_, _, _], _ => rfl⟩, F.kp, T.g_law_value⟩
  intro y post ep h
  dsimp only [endP, seqP, endI]
  obtain ⟨⟨hv, h60, hm, hl, hw⟩, hp⟩ := h
  intro hz
  refine ⟨hz, lcAll (fun p : Tu Str × Int => p.2) _ (fun _ _ _ _ p => p) (fun _ _ _ _ p => ⟨rfl, p⟩) ⟨.inl ⟨by omega, by omega⟩, fun _ => ?_⟩⟩
  refine forP_ind (fun rest s => (∀ r ∈ rest, r ∈ y.1) ∧ s - ((nms ["valve"] rest).map fun v => max 0 (load y.2.2.1.l v - costAt (mkW y.1) v)).sum = valueOf (mkW y.1) y.2.1 y.2.2.1.l) (fun s hi => ?_) (fun r rest s next hn hi => ?_) _ _ ⟨fun _ h => h, rfl⟩
  · obtain ⟨_, h2⟩ := hi
    have : s - 0 = valueOf (mkW y.1) y.2.1 y.2.2.1.l := h2
    rw [show s = valueOf (mkW y.1) y.2.1 y.2.2.1.l by omega]
    exact hp
  · obtain ⟨h1, h2⟩ := hi
    have hr := h1 r List.mem_cons_self
    have hrest : ∀ q ∈ rest, q ∈ y.1 := fun q hq => h1 q (List.mem_cons_of_mem _ hq)
    refine ⟨_, enc0 r, _, rfl, if_dd (fun hk => ?_) fun hk => hn s ⟨hrest, ?_⟩⟩
    · intro hz
      have hvn : r.name ∈ nms ["valve"] y.1 := mem_nms.mpr ⟨r, hr, by rw [hk]; exact List.mem_cons_self, rfl⟩
      refine ⟨hz, lcP_eq (fun p : Tu Str × Int => decide (r.name ∈ p.1.l)) (fun p => p.2) _ (fun p _ P ep q => ⟨_, enc1 r, _, rfl, rfl, by rw [any_mem]; exact q⟩) (fun _ _ _ P ep q => ⟨rfl, q⟩) ?_⟩
      have el : ((y.2.2.1.l.filter fun p => decide (r.name ∈ p.1.l)).map fun p => p.2).sum = load y.2.2.1.l r.name := by
        unfold load
        congr 2
        refine List.filter_congr fun p hp => ?_
        have := valve_mem hv (hw p hp).1 hvn
        by_cases z : r.name ∈ odds p.1.l
        · rw [decide_eq_true z, decide_eq_true (this.mpr z)]
        · rw [decide_eq_false z, decide_eq_false fun q => z (this.mp q)]
      rw [el]
      have er : rowAt (mkW y.1) r.name = some r := (rowAt_W hv).mpr ⟨hr, rfl⟩
      have en : nms ["valve"] (r :: rest) = r.name :: nms ["valve"] rest := by
        unfold nms
        rw [List.filter_cons, if_pos (by rw [hk]; decide), List.map_cons]
      rw [en, List.map_cons, sum_cons'] at h2
      cases r with
      | valve n a b q c =>
        have ec : costAt (mkW y.1) n = c := by
          unfold costAt
          rw [show rowAt (mkW y.1) n = _ from er]
        refine ⟨_, rfl, c, rfl, if_dd (fun h => ⟨_, rfl, c, rfl, hn _ ⟨hrest, ?_⟩⟩) fun h => hn _ ⟨hrest, ?_⟩⟩
        · have h2 : s - (max 0 (load y.2.2.1.l n - costAt (mkW y.1) n) + ((nms ["valve"] rest).map fun v => max 0 (load y.2.2.1.l v - costAt (mkW y.1) v)).sum) = _ := h2
          rw [ec] at h2
          have h : c < load y.2.2.1.l n := h
          show s - (load y.2.2.1.l n - c) - _ = _
          omega
        · have h2 : s - (max 0 (load y.2.2.1.l n - costAt (mkW y.1) n) + ((nms ["valve"] rest).map fun v => max 0 (load y.2.2.1.l v - costAt (mkW y.1) v)).sum) = _ := h2
          rw [ec] at h2
          have h : ¬ c < load y.2.2.1.l n := h
          omega
      | _ => exact absurd hk (by simp only [Row.kind]; decide)
    · have en : nms ["valve"] (r :: rest) = nms ["valve"] rest := by
        unfold nms
        rw [List.filter_cons, if_neg (by simpa using hk)]
      rw [en] at h2
      exact h2
theorem sc_law_cost : FnScope ["works", "v"] ["works", "v"] (defScope s_law_cost) := ⟨rfl, rfl, rfl, by decide +kernel, rfl, by decide +kernel, by decide +kernel⟩
theorem ok_law_cost (T : Txt w K mg) : Ok pw w K mg base "_law_cost" (He.fAd K ("_law_cost", none)) 6 ["works", "v"] (spOf K rs0 (aCons rpWk (aCons (rpT (i := rpS)) aNil)) rpI (fun x post _ => (IsW x.1 ∧ x.2.1.l.length ≤ 8 ∧ ∀ n ∈ x.2.1.l, n ∈ x.1.valves) ∧ post (costOf x.1 x.2.1.l))) := by
  have F_cost_of := (ok_cost_of (w := w) (base := base) T).fr
  have K_cost_of := (ok_cost_of (w := w) (base := base) T).kp
  have G_cost_of := (ok_cost_of (w := w) (base := base) T).gm
  obtain ⟨fd, F⟩ := T.d_law_cost
  have nd := sc_law_cost.nd
  refine ⟨⟨fd, fn_ok F sc_law_cost (fun _ => rfl) (fun y cdv A outer s H G E hr => ⟨_, (b_if (mid := fun s1 : Unit => [.val rpWk y.1, .val (rpT (i := rpS)) y.2.1]) (t_cmp eq_V (e_cb len_T T.f_len (a_cons (e_var 1 rfl) a_nil)) e_int (nomark _))
 (b_ret (e_callV F_cost_of (hr.mono (by decide)) G_cost_of K_cost_of (a_cons (e_var 0 rfl) a_nil) .nil))
 (b_nil () (.cons (.refl _) (.cons (.refl _) .nil)))
 (fun s1 => (b_if (mid := fun s2 : Unit => [.val rpWk y.1, .val (rpT (i := rpS)) y.2.1]) (t_cmp eq_V (e_cb len_T T.f_len (a_cons (e_var 1 rfl) a_nil)) e_int (nomark _))
 (b_ret (e_callV F_cost_of (hr.mono (by decide)) G_cost_of K_cost_of (a_cons (e_var 0 rfl) (a_cons (e_ix ix_T (e_var 1 rfl) e_int) a_nil)) (.cons .nil)))
 (b_nil () (.cons (.refl _) (.cons (.refl _) .nil)))
 (fun s2 => (b_if (mid := fun s3 : Unit => [.val rpWk y.1, .val (rpT (i := rpS)) y.2.1]) (t_cmp eq_V (e_cb len_T T.f_len (a_cons (e_var 1 rfl) a_nil)) e_int (nomark _))
 (b_ret (e_callV F_cost_of (hr.mono (by decide)) G_cost_of K_cost_of (a_cons (e_var 0 rfl) (a_cons (e_ix ix_T (e_var 1 rfl) e_int) (a_cons (e_ix ix_T (e_var 1 rfl) e_int) a_nil))) (.cons (.cons .nil))))
 (b_nil () (.cons (.refl _) (.cons (.refl _) .nil)))
 (fun s3 => (b_if (mid := fun s4 : Unit => [.val rpWk y.1, .val (rpT (i := rpS)) y.2.1]) (t_cmp eq_V (e_cb len_T T.f_len (a_cons (e_var 1 rfl) a_nil)) e_int (nomark _))
 (b_ret (e_callV F_cost_of (hr.mono (by decide)) G_cost_of K_cost_of (a_cons (e_var 0 rfl) (a_cons (e_ix ix_T (e_var 1 rfl) e_int) (a_cons (e_ix ix_T (e_var 1 rfl) e_int) (a_cons (e_ix ix_T (e_var 1 rfl) e_int) a_nil)))) (.cons (.cons (.cons .nil)))))
 (b_nil () (.cons (.refl _) (.cons (.refl _) .nil)))
 (fun s4 => (b_if (mid := fun s5 : Unit => [.val rpWk y.1, .val (rpT (i := rpS)) y.2.1]) (t_cmp eq_V (e_cb len_T T.f_len (a_cons (e_var 1 rfl) a_nil)) e_int (nomark _))
 (b_ret (e_callV F_cost_of (hr.mono (by decide)) G_cost_of K_cost_of (a_cons (e_var 0 rfl) (a_cons (e_ix ix_T (e_var 1 rfl) e_int) (a_cons (e_ix ix_T (e_var 1 rfl) e_int) (a_cons (e_ix ix_T (e_var 1 rfl) e_int) (a_cons (e_ix ix_T (e_var 1 rfl) e_int) a_nil))))) (.cons (.cons (.cons (.cons .nil))))))
 (b_nil () (.cons (.refl _) (.cons (.refl _) .nil)))
 (fun s5 => (b_if (mid := fun s6 : Unit => [.val rpWk y.1, .val (rpT (i := rpS)) y.2.1]) (t_cmp eq_V (e_cb len_T T.f_len (a_cons (e_var 1 rfl) a_nil)) e_int (nomark _))
 (b_ret (e_callV F_cost_of (hr.mono (by decide)) G_cost_of K_cost_of (a_cons (e_var 0 rfl) (a_cons (e_ix ix_T (e_var 1 rfl) e_int) (a_cons (e_ix ix_T (e_var 1 rfl) e_int) (a_cons (e_ix ix_T (e_var 1 rfl) e_int) (a_cons (e_ix ix_T (e_var 1 rfl) e_int) (a_cons (e_ix ix_T (e_var 1 rfl) e_int) a_nil)))))) (.cons (.cons (.cons (.cons (.cons .nil)))))))
 (b_nil () (.cons (.refl _) (.cons (.refl _) .nil)))
 (fun s6 => (b_if (mid := fun s7 : Unit => [.val rpWk y.1, .val (rpT (i := rpS)) y.2.1]) (t_cmp eq_V (e_cb len_T T.f_len (a_cons (e_var 1 rfl) a_nil)) e_int (nomark _))
 (b_ret (e_callV F_cost_of (hr.mono (by decide)) G_cost_of K_cost_of (a_cons (e_var 0 rfl) (a_cons (e_ix ix_T (e_var 1 rfl) e_int) (a_cons (e_ix ix_T (e_var 1 rfl) e_int) (a_cons (e_ix ix_T (e_var 1 rfl) e_int) (a_cons (e_ix ix_T (e_var 1 rfl) e_int) (a_cons (e_ix ix_T (e_var 1 rfl) e_int) (a_cons (e_ix ix_T (e_var 1 rfl) e_int) a_nil))))))) (.cons (.cons (.cons (.cons (.cons (.cons .nil))))))))
 (b_nil () (.cons (.refl _) (.cons (.refl _) .nil)))
 (fun s7 => (b_if (mid := fun s8 : Unit => [.val rpWk y.1, .val (rpT (i := rpS)) y.2.1]) (t_cmp eq_V (e_cb len_T T.f_len (a_cons (e_var 1 rfl) a_nil)) e_int (nomark _))
 (b_ret (e_callV F_cost_of (hr.mono (by decide)) G_cost_of K_cost_of (a_cons (e_var 0 rfl) (a_cons (e_ix ix_T (e_var 1 rfl) e_int) (a_cons (e_ix ix_T (e_var 1 rfl) e_int) (a_cons (e_ix ix_T (e_var 1 rfl) e_int) (a_cons (e_ix ix_T (e_var 1 rfl) e_int) (a_cons (e_ix ix_T (e_var 1 rfl) e_int) (a_cons (e_ix ix_T (e_var 1 rfl) e_int) (a_cons (e_ix ix_T (e_var 1 rfl) e_int) a_nil)))))))) (.cons (.cons (.cons (.cons (.cons (.cons (.cons .nil)))))))))
 (b_nil () (.cons (.refl _) (.cons (.refl _) .nil)))
 (fun s8 => (b_if (mid := fun s9 : Unit => [.val rpWk y.1, .val (rpT (i := rpS)) y.2.1]) (t_cmp eq_V (e_cb len_T T.f_len (a_cons (e_var 1 rfl) a_nil)) e_int (nomark _))
 (b_ret (e_callV F_cost_of (hr.mono (by decide)) G_cost_of K_cost_of (a_cons (e_var 0 rfl) (a_cons (e_ix ix_T (e_var 1 rfl) e_int) (a_cons (e_ix ix_T (e_var 1 rfl) e_int) (a_cons (e_ix ix_T (e_var 1 rfl) e_int) (a_cons (e_ix ix_T (e_var 1 rfl) e_int) (a_cons (e_ix ix_T (e_var 1 rfl) e_int) (a_cons (e_ix ix_T (e_var 1 rfl) e_int) (a_cons (e_ix ix_T (e_var 1 rfl) e_int) (a_cons (e_ix ix_T (e_var 1 rfl) e_int) a_nil))))))))) (.cons (.cons (.cons (.cons (.cons (.cons (.cons (.cons .nil))))))))))
 (b_nil () (.cons (.refl _) (.cons (.refl _) .nil)))
 (fun s9 => (b_ret (e_callV F_cost_of (hr.mono (by decide)) G_cost_of K_cost_of (a_cons (e_var 0 rfl) (a_cons (e_ix ix_T (e_var 1 rfl) e_int) (a_cons (e_ix ix_T (e_var 1 rfl) e_int) (a_cons (e_ix ix_T (e_var 1 rfl) e_int) (a_cons (e_ix ix_T (e_var 1 rfl) e_int) (a_cons (e_ix ix_T (e_var 1 rfl) e_int) (a_cons (e_ix ix_T (e_var 1 rfl) e_int) (a_cons (e_ix ix_T (e_var 1 rfl) e_int) (a_cons (e_ix ix_T (e_var 1 rfl) e_int) (a_cons (e_ix ix_T (e_var 1 rfl) e_int) a_nil)))))))))) (.cons (.cons (.cons (.cons (.cons (.cons (.cons (.cons (.cons .nil)))))))))))))))))))))))))))))⟩) ?_, F.bindsN fun _ _ _ _ _ _ us hl => match us, hl with | [_, _], _ => rfl⟩, F.kp, T.g_law_cost⟩
  intro y post ep h
  dsimp only [endP, seqP, endI]
  obtain ⟨⟨hw, hl, hv⟩, hp⟩ := h
  obtain ⟨m, ⟨l⟩, u⟩ := y
  dsimp only at hw hl hv hp ⊢
  rcases l with _ | ⟨a, _ | ⟨b, _ | ⟨c, _ | ⟨d, _ | ⟨e, _ | ⟨f, _ | ⟨g, _ | ⟨i, _ | ⟨j, l⟩⟩⟩⟩⟩⟩⟩⟩⟩
  all_goals first
    | (exfalso; simp only [List.length_cons] at hl; omega)
    | skip
  all_goals
    repeat' (first | (refine fun _ => if_dT (by rfl) ?_) | (refine fun _ => if_dF (by simp) ?_))
  all_goals
    repeat (refine ⟨_, rfl, ?_⟩)
  all_goals exact ⟨len_lit (Nat.le_of_ble_eq_true rfl), ⟨hw, hv⟩, hp⟩
theorem sc_law_integer : FnScope ["told", "due"] ["told", "due"] (defScope s_law_integer) := ⟨rfl, rfl, rfl, by decide +kernel, rfl, by decide +kernel, by decide +kernel⟩
theorem ok_law_integer (T : Txt w K mg) : Ok pw w K mg base "_law_integer" (He.fAd K ("_law_integer", none)) 1 ["told", "due"] (spOf K rs0 (aCons rpI (aCons rpI aNil)) rpB (fun x post _ => post (decide (x.1 = x.2.1)))) := by
  obtain ⟨fd, F⟩ := T.d_law_integer
  have nd := sc_law_integer.nd
  refine ⟨⟨fd, fn_ok F sc_law_integer (fun _ => rfl) (fun y cdv A outer s H G E hr => ⟨_, (b_ret (e_and (e_cb (isiw (cv := .ty "int") (u := .type "int") (b := true) tyI (.ty _) (L2.kit_ty (by decide +kernel))) T.f_isinstance (a_cons (e_var 0 rfl) (a_cons (e_clsB T.f_int) a_nil))) (e_and (e_not (e_cb (isiw (cv := .ty "bool") (u := .type "bool") (b := false) tyI (.ty _) (L2.kit_ty (by decide +kernel))) T.f_isinstance (a_cons (e_var 0 rfl) (a_cons (e_clsB T.f_bool) a_nil)))) (e_one (e_cmp eq_V (e_var 0 rfl) (e_var 1 rfl) (nomark _))))))⟩) ?_, F.bindsN fun _ _ _ _ _ _ us hl => match us, hl with | [_, _], _ => rfl⟩, F.kp, T.g_law_integer⟩
  intro y post ep h
  dsimp only [endP, seqP, endI]
  exact h
theorem sc_law_walk : FnScope ["bag", "rows", "heads", "path", "k", "here", "row", "near", "onward", "there"] ["bag", "rows", "heads"] (defScope s_law_walk) := ⟨rfl, rfl, rfl, by decide +kernel, rfl, by decide +kernel, by decide +kernel⟩
theorem ok_law_walk (T : Txt w K mg) : Ok pw w K mg base "_law_walk" (He.fAd K ("_law_walk", none)) 2 ["bag", "rows", "heads"] (spR K (rsH 4) (fun q => (aRf q (aCons (rpL (i := rpRow)) (aCons (rpL (i := rpS)) aNil)))) (rpT (i := rpS)) (fun x post _ => (VRows x.1 ∧ x.1.length ≤ 60 ∧ x.2.1 = nms FK x.1 ∧ x.2.1 ≠ []) ∧ ∀ p : List Str, Walk (mkW x.1) p → post ⟨p⟩)) := by
  obtain ⟨fd_law_take, F_law_take, B_law_take⟩ := (ok_law_take (w := w) (base := base) T).ex
  have K_law_take := (ok_law_take (w := w) (base := base) T).kp
  have G_law_take := (ok_law_take (w := w) (base := base) T).gm
  obtain ⟨fd, F⟩ := T.d_law_walk
  have nd := sc_law_walk.nd
  refine ⟨⟨fd, fn_okR F sc_law_walk (fun _ _ => rfl) (fun q y cdv A outer s H G E hr => ⟨_, (b_set 3 nd (e_tupF (a_cons (e_ix ix_L (e_var 2 rfl) (e_callR rfl F_law_take (hr.mono (by decide)) G_law_take K_law_take B_law_take (takes_of rfl rfl rfl rfl) (a_rf 0 rfl (a_cons (e_cb len_L T.f_len (a_cons (e_var 2 rfl) a_nil)) a_nil)))) a_nil) (.cons .nil))
 (fun path_1 => (b_for (lpS := fun s2 : (Tu Str) => [.rf q, .val (rpL (i := rpRow)) y.1, .val (rpL (i := rpS)) y.2.1, .val (rpF (i := rpS)) s2, .no, .no, .no, .no, .no, .no]) path_1 (.cons (.refl _) (.cons (.refl _) (.cons (.refl _) (.cons (.refl _) (.cons (.refl _) (.cons (.refl _) (.cons (.refl _) (.cons (.refl _) (.cons (.refl _) (.cons (.refl _) .nil)))))))))) (passes_of rfl) rfl (i_rng1 (by rfl) T.f_range (a_cons (e_op add_I e_int (e_callR rfl F_law_take (hr.mono (by decide)) G_law_take K_law_take B_law_take (takes_of rfl rfl rfl rfl) (a_rf 0 rfl (a_cons e_int a_nil)))) a_nil)) (g_name 4 nd)
 (fun x3 s2 => (b_set 5 nd (e_ix ix_T (e_up upF (e_var 3 rfl)) (e_un neg_I e_int))
 (fun here_4 => (b_setLc 7 rfl nd (blkOk_by (own := [("row", 6)]) (by show blkC ["bag", "rows", "heads", "path", "k", "here", "row", "near", "onward", "there"] (defScope s_law_walk) _ _ = true; decide +kernel)) (by decide) rfl (i_lst (e_var 1 rfl)) (fun _ _ _ _ _ => (g_name 6 nd)) (fun _ _ _ _ _ c6 => (JTs.conv (ts_one (JT.cut (t_pw (tw_and (t_cmp in_T (e_dn dnS (e_ix ix_T (e_up upRow (e_var 6 rfl)) e_int)) (e_tupT (a_cons e_str (a_cons e_str a_nil)) (.cons (.cons .nil))) rfl) (tw_and1 (t_cmp in_T (e_var 5 rfl) (e_tupT (a_cons (e_dn dnS (e_ix ix_T (e_up upRow (e_var 6 rfl)) e_int)) (a_cons (e_dn dnS (e_ix ix_T (e_up upRow (e_var 6 rfl)) e_int)) a_nil)) (.cons (.cons .nil))) rfl)))))) (by first | rfl | (dsimp only [Cx.blk] <;> rfl)) (by first | rfl | (dsimp only [Cx.blk] <;> rfl)))) (fun _ _ _ _ _ c6 => (e_var 6 rfl))
 (fun near_5 => (b_setLc 8 rfl nd (blkOk_by (own := [("row", 6)]) (by show blkC ["bag", "rows", "heads", "path", "k", "here", "row", "near", "onward", "there"] (defScope s_law_walk) _ _ = true; decide +kernel)) (by decide) rfl (i_lst (e_var 7 rfl)) (fun _ _ _ _ _ => (g_name 6 nd)) (fun _ _ _ _ _ c8 => (JTs.conv (ts_one (JT.cut (t_pw (tw_or (t_cmp nin_T (e_dn dnS (e_ix ix_T (e_up upRow (e_var 6 rfl)) e_int)) (e_up upF (e_var 3 rfl)) rfl) (tw_or1 (t_cmp nin_T (e_dn dnS (e_ix ix_T (e_up upRow (e_var 6 rfl)) e_int)) (e_up upF (e_var 3 rfl)) rfl)))))) (by first | rfl | (dsimp only [Cx.blk] <;> rfl)) (by first | rfl | (dsimp only [Cx.blk] <;> rfl)))) (fun _ _ _ _ _ c8 => (e_var 6 rfl))
 (fun onward_7 => (b_ifJ (mid := fun s9 : (List Row) => [.rf q, .val (rpL (i := rpRow)) y.1, .val (rpL (i := rpS)) y.2.1, .val (rpF (i := rpS)) s2, .val rpI x3, .val rpS here_4, .no, .val (rpL (i := rpRow)) s9, .val (rpL (i := rpRow)) onward_7, .no]) (JT.cut (t_pw (tw_and (t_cmp gt_I (e_cb len_L T.f_len (a_cons (e_var 8 rfl) a_nil)) e_int (nomark _)) (tw_and1 (t_cmp gt_I (e_callR rfl F_law_take (hr.mono (by decide)) G_law_take K_law_take B_law_take (takes_of rfl rfl rfl rfl) (a_rf 0 rfl (a_cons e_int a_nil))) e_int (nomark _))))))
 (b_set 7 nd (e_var 8 rfl)
 (fun near_10 => (b_nil near_10 (.cons (.refl _) (.cons (.refl _) (.cons (.refl _) (.cons (.refl _) (.cons (.refl _) (.cons (.refl _) (.cons (.refl _) (.cons (.refl _) (.cons (.refl _) (.cons (.refl _) .nil)))))))))))))
 (b_nil near_5 (.cons (.refl _) (.cons (.refl _) (.cons (.refl _) (.cons (.refl _) (.cons (.refl _) (.cons (.refl _) (.cons (.refl _) (.cons (.refl _) (.cons (.refl _) (.cons (.refl _) .nil)))))))))))
 (fun s9 => (b_ifE (t_cmp gt_I (e_cb len_L T.f_len (a_cons (e_var 7 rfl) a_nil)) e_int (nomark _))
 (b_set 6 nd (e_ix ix_L (e_var 7 rfl) (e_callR rfl F_law_take (hr.mono (by decide)) G_law_take K_law_take B_law_take (takes_of rfl rfl rfl rfl) (a_rf 0 rfl (a_cons (e_cb len_L T.f_len (a_cons (e_var 7 rfl) a_nil)) a_nil))))
 (fun row_11 => (b_set 9 nd (e_dn dnS (e_ix ix_T (e_up upRow (e_var 6 rfl)) e_int))
 (fun there_12 => (b_ifJ (mid := fun s13 : Str => [.rf q, .val (rpL (i := rpRow)) y.1, .val (rpL (i := rpS)) y.2.1, .val (rpF (i := rpS)) s2, .val rpI x3, .val rpS here_4, .val rpRow row_11, .val (rpL (i := rpRow)) s9, .val (rpL (i := rpRow)) onward_7, .val rpS s13]) (t_cmp eq_V (e_var 5 rfl) (e_dn dnS (e_ix ix_T (e_up upRow (e_var 6 rfl)) e_int)) (nomark _))
 (b_set 9 nd (e_dn dnS (e_ix ix_T (e_up upRow (e_var 6 rfl)) e_int))
 (fun there_14 => (b_nil there_14 (.cons (.refl _) (.cons (.refl _) (.cons (.refl _) (.cons (.refl _) (.cons (.refl _) (.cons (.refl _) (.cons (.refl _) (.cons (.refl _) (.cons (.refl _) (.cons (.refl _) .nil)))))))))))))
 (b_nil there_12 (.cons (.refl _) (.cons (.refl _) (.cons (.refl _) (.cons (.refl _) (.cons (.refl _) (.cons (.refl _) (.cons (.refl _) (.cons (.refl _) (.cons (.refl _) (.cons (.refl _) .nil)))))))))))
 (fun s13 => (b_ifE (t_cmp in_T (e_var 9 rfl) (e_up upF (e_var 3 rfl)) rfl)
 (b_set 3 nd (e_sl sl_F (e_var 3 rfl) o_none (o_some (e_op add_I (e_idxF (e_var 3 rfl) (e_var 9 rfl)) e_int)))
 (fun path_15 => (b_nil path_15 (.cons (.refl _) (.cons (.refl _) (.cons (.refl _) (.cons (.refl _) (.cons (.no _) (.cons (.no _) (.cons (.no _) (.cons (.no _) (.cons (.no _) (.cons (.no _) .nil)))))))))))))
 (b_set 3 nd (e_op add_F (e_var 3 rfl) (e_tupT (a_cons (e_dn dnS (e_ix ix_T (e_up upRow (e_var 6 rfl)) e_int)) (a_cons (e_var 9 rfl) a_nil)) (.cons (.cons .nil))))
 (fun path_16 => (b_nil path_16 (.cons (.refl _) (.cons (.refl _) (.cons (.refl _) (.cons (.refl _) (.cons (.no _) (.cons (.no _) (.cons (.no _) (.cons (.no _) (.cons (.no _) (.cons (.no _) .nil))))))))))))))))))))
 (b_nil s2 (.cons (.refl _) (.cons (.refl _) (.cons (.refl _) (.cons (.refl _) (.cons (.no _) (.cons (.no _) (.cons (.refl _) (.cons (.no _) (.cons (.no _) (.cons (.refl _) .nil)))))))))))))))))))))
 (fun s2 => (b_ret (e_up upF (e_var 3 rfl)))))))⟩) ?_, F.bindsN fun _ _ _ _ _ _ us hl => match us, hl with | [_, _, _], _ => rfl⟩, F.kp, T.g_law_walk⟩
  intro y post ep h
  dsimp only [endP, seqP, endI]
  obtain ⟨⟨hv, h60, e, hne⟩, hp⟩ := h
  have hz := sz
  have fw := hv.few
  have lf : y.2.1.length ≤ 58 := by
    rw [e]
    have := (nms_sub y.1 FK).length_le
    rw [List.length_map] at this
    omega
  have pos : 0 < y.2.1.length := List.length_pos_iff.mpr hne
  intro _
  refine ⟨⟨by omega, by omega⟩, fun r r0 r1 => ex_at r0 r1 fun a ha _ => ⟨len1, ⟨by decide, by decide⟩, fun n n0 n1 => ⟨⟨by omega, by omega⟩, ?_⟩⟩⟩
  have w0 : Walk (mkW y.1) [a] := ⟨a, [], rfl, by show a ∈ nms FK y.1; rw [← e]; exact ha, trivial, by simp⟩
  refine forR_ind (fun k (s : Tu Str) => Walk (mkW y.1) s.l) (fun s hi => hp s.l hi) (fun k s next hk hn hi => ?_) _ w0
  have few := walk_few hv hi
  obtain ⟨b, ps, x⟩ := walk_x hv hi
  refine ⟨lastP b ps, by rw [atI_last]; exact walk_last x, fun hl => ⟨hl, ?_⟩⟩
  refine lcP_eq (nearB (lastP b ps)) (fun r => r) _ (fun r hr P ep p => cutJ (fun k => k = nearB (lastP b ps) r) ?_ fun k hk => hk ▸ p) (fun _ _ _ P ep p => p) ?_
  · refine ⟨_, enc0 r, _, rfl, len2, if_in (fun hk => ?_) fun hk => ?_⟩
    · obtain ⟨c, d, e1, e2, e3⟩ := link_ends hk
      refine ⟨_, e1, c, rfl, _, e2, d, rfl, len2, ?_⟩
      unfold nearB
      rw [decide_eq_true hk, e3, any_mem]
      rfl
    · unfold nearB
      rw [decide_eq_false hk]
      rfl
  rw [List.map_id']
  generalize hN : y.1.filter (nearB (lastP b ps)) = N
  have ln : N.length ≤ 58 := by
    rw [← hN]
    have := List.length_filter_le (nearB (lastP b ps)) y.1
    omega
  have inN : ∀ r ∈ N, r ∈ y.1 ∧ r.kind ∈ LK ∧ ∃ t, r.ends = some (lastP b ps, t) ∨ r.ends = some (t, lastP b ps) := fun r hr => by
    rw [← hN] at hr
    obtain ⟨h1, h2⟩ := List.mem_filter.mp hr
    unfold nearB at h2
    rw [Bool.and_eq_true] at h2
    have hk := of_decide_eq_true h2.1
    obtain ⟨c, d, _, _, e3⟩ := link_ends hk
    refine ⟨h1, hk, ?_⟩
    rw [e3] at h2 ⊢
    have h3 := of_decide_eq_true h2.2
    simp only [List.mem_cons, List.not_mem_nil, or_false] at h3
    rcases h3 with h3 | h3
    · exact ⟨d, .inl (by rw [h3])⟩
    · exact ⟨c, .inr (by rw [h3])⟩
  intro hl2
  refine ⟨hl2, ?_⟩
  refine lcP_eq (onB s.l) (fun r => r) _ (fun r hr P ep p => cutJ (fun k => k = onB s.l r) ?_ fun k hk => hk ▸ p) (fun _ _ _ P ep p => p) ?_
  · obtain ⟨c, d, e1, e2, e3⟩ := link_ends (inN r hr).2.1
    refine ⟨_, e1, c, rfl, ?_⟩
    unfold onB
    rw [e3]
    dsimp only
    cases z : (s.l.any fun m => m == c) with
    | false => exact if_nf rfl
    | true => exact if_nt ⟨_, e2, d, rfl, rfl⟩
  rw [List.map_id']
  refine ex_J (fun M => M.length ≤ 58 ∧ ∀ r ∈ M, r ∈ N) (cutA (fun _ => if_dd (fun _ => ⟨⟨by decide, by decide⟩, fun _ _ _ => trivial⟩) fun _ => trivial) fun k => ?_) fun M hM => ?_
  · cases k with
    | true =>
      refine if_t (nx_in ⟨?_, fun r hr => (List.mem_filter.mp hr).1⟩)
      have := List.length_filter_le (onB s.l) N
      omega
    | false => exact if_f (nx_in ⟨ln, fun _ h => h⟩)
  obtain ⟨hM1, hM2⟩ := hM
  refine fun _ => if_dd (fun h0 _ => ⟨⟨h0, by omega⟩, fun j j0 j1 => ex_at j0 j1 fun r hr _ => ?_⟩) fun _ => hn _ hi
  obtain ⟨hr1, hk, t0, ht0⟩ := inN r (hM2 r hr)
  obtain ⟨c, d, e1, e2, e3⟩ := link_ends hk
  refine ⟨_, e2, d, rfl, ex_J (fun t => r.ends = some (lastP b ps, t) ∨ r.ends = some (t, lastP b ps)) ⟨_, e2, d, rfl, if_dd (fun h => ⟨_, e1, c, rfl, nx_in (.inr (by rw [e3, h]))⟩) fun h => nx_in (.inl ?_)⟩ fun t ht => ?_⟩
  · rw [e3] at ht0 ⊢
    rcases ht0 with ht0 | ht0
    · cases ht0
      rfl
    · cases ht0
      exact absurd rfl h
  have pt : t ∈ nms PK y.1 := by
    rcases ht with ht | ht
    · exact (ends_pl hv hr1 ht).2.1
    · exact (ends_pl hv hr1 ht).1
  refine if_in (fun hin => ?_) fun hin => ⟨_, enc1 r, _, rfl, len2, ⟨fun e => by rw [e] at few; exact absurd few.2 (by decide), fun e => (nomatch e), by simp only [List.length_cons, List.length_nil]; omega⟩, hn _ (walk_ext hv x hr1 hk ht hin)⟩
  obtain ⟨i, hi1, hi2⟩ := first_idx hin
  refine ⟨i, hi1, hi2, hn _ ?_⟩
  show Walk (mkW y.1) (cutL s.l none (some ((i : Int) + 1)))
  rw [cutL_to (List.getElem?_eq_some_iff.mp hi1).1]
  exact walk_cut hv x pt hi1
theorem sc_law_walks : FnScope ["bag", "rows", "heads", "walks", "k", "ends", "path"] ["bag", "rows"] (defScope s_law_walks) := ⟨rfl, rfl, rfl, by decide +kernel, rfl, by decide +kernel, by decide +kernel⟩
theorem ok_law_walks (T : Txt w K mg) : Ok pw w K mg base "_law_walks" (He.fAd K ("_law_walks", none)) 3 ["bag", "rows"] (spR K (rsH 4) (fun q => (aRf q (aCons (rpL (i := rpRow)) aNil))) (rpL (i := (rpT (i := rpS)))) (fun x post _ => (VRows x.1 ∧ x.1.length ≤ 60) ∧ ∀ ws, WalksOk x.1 ws → post ws)) := by
  obtain ⟨fd_law_names, F_law_names, B_law_names⟩ := (ok_law_names (w := w) (base := base) T).ex
  have K_law_names := (ok_law_names (w := w) (base := base) T).kp
  have G_law_names := (ok_law_names (w := w) (base := base) T).gm
  obtain ⟨fd_law_take, F_law_take, B_law_take⟩ := (ok_law_take (w := w) (base := base) T).ex
  have K_law_take := (ok_law_take (w := w) (base := base) T).kp
  have G_law_take := (ok_law_take (w := w) (base := base) T).gm
  obtain ⟨fd_law_walk, F_law_walk, B_law_walk⟩ := (ok_law_walk (w := w) (base := base) T).ex
  have K_law_walk := (ok_law_walk (w := w) (base := base) T).kp
  have G_law_walk := (ok_law_walk (w := w) (base := base) T).gm
  obtain ⟨fd, F⟩ := T.d_law_walks
  have nd := sc_law_walks.nd
  refine ⟨⟨fd, fn_okR F sc_law_walks (fun _ _ => rfl) (fun q y cdv A outer s H G E hr => ⟨_, (b_set 2 nd (e_call F_law_names (hr.mono (by decide)) G_law_names K_law_names B_law_names (takes_of rfl rfl rfl rfl) (a_cons (e_var 1 rfl) (a_cons (e_tupT (a_cons e_str (a_cons e_str a_nil)) (.cons (.cons .nil))) a_nil)))
 (fun heads_1 => (b_new (rpT (i := rpS)) 3 nd (b_if (mid := fun s2 : (List (Tu Str)) => [.rf q, .val (rpL (i := rpRow)) y.1, .val (rpL (i := rpS)) heads_1, .ml (rpT (i := rpS)) s2, .no, .no, .no]) (t_cmp gt_I (e_cb len_L T.f_len (a_cons (e_var 2 rfl) a_nil)) e_int (nomark _))
 (b_for (lpS := fun s3 : (List (Tu Str)) => [.rf q, .val (rpL (i := rpRow)) y.1, .val (rpL (i := rpS)) heads_1, .ml (rpT (i := rpS)) s3, .no, .no, .no]) [] (.cons (.refl _) (.cons (.refl _) (.cons (.refl _) (.cons (.refl _) (.cons (.refl _) (.cons (.refl _) (.cons (.refl _) .nil))))))) (passes_of rfl) rfl (i_rng1 (by rfl) T.f_range (a_cons (e_op add_I e_int (e_callR rfl F_law_take (hr.mono (by decide)) G_law_take K_law_take B_law_take (takes_of rfl rfl rfl rfl) (a_rf 0 rfl (a_cons e_int a_nil)))) a_nil)) (g_name 4 nd)
 (fun x4 s3 => (b_app1 3 rfl (e_callR rfl F_law_walk (hr.mono (by decide)) G_law_walk K_law_walk B_law_walk (takes_of rfl rfl rfl rfl) (a_rf 0 rfl (a_cons (e_var 1 rfl) (a_cons (e_var 2 rfl) a_nil))))
 (fun m5 => (b_nil (s3 ++ [m5]) (.cons (.refl _) (.cons (.refl _) (.cons (.refl _) (.cons (.refl _) (.cons (.no _) (.cons (.refl _) (.cons (.refl _) .nil)))))))))))
 (fun s3 => (b_nil s3 (.cons (.refl _) (.cons (.refl _) (.cons (.refl _) (.cons (.refl _) (.cons (.refl _) (.cons (.refl _) (.cons (.refl _) .nil))))))))))
 (b_nil [] (.cons (.refl _) (.cons (.refl _) (.cons (.refl _) (.cons (.refl _) (.cons (.refl _) (.cons (.refl _) (.cons (.refl _) .nil))))))))
 (fun s2 => (b_frz 3 rfl (b_setLc 5 rfl nd (blkOk_by (own := [("path", 6)]) (by show blkC ["bag", "rows", "heads", "walks", "k", "ends", "path"] (defScope s_law_walks) _ _ = true; decide +kernel)) (by decide) rfl (i_lst (e_var 3 rfl)) (fun _ _ _ _ _ => (g_name 6 nd)) (fun _ _ _ _ _ c7 => (JTs.conv (ts_one (t_cmp nin_L (e_ix ix_T (e_var 6 rfl) (e_un neg_I e_int)) (e_var 2 rfl) rfl)) (by first | rfl | (dsimp only [Cx.blk] <;> rfl)) (by first | rfl | (dsimp only [Cx.blk] <;> rfl)))) (fun _ _ _ _ _ c7 => (e_var 6 rfl))
 (fun ends_6 => (b_if (mid := fun s8 : Unit => [.rf q, .val (rpL (i := rpRow)) y.1, .val (rpL (i := rpS)) heads_1, .val (rpL (i := (rpT (i := rpS)))) s2, .no, .val (rpL (i := (rpT (i := rpS)))) ends_6, .no]) (t_pw (tw_and (t_cmp gt_I (e_cb len_L T.f_len (a_cons (e_var 5 rfl) a_nil)) e_int (nomark _)) (tw_and1 (t_cmp gt_I (e_callR rfl F_law_take (hr.mono (by decide)) G_law_take K_law_take B_law_take (takes_of rfl rfl rfl rfl) (a_rf 0 rfl (a_cons e_int a_nil))) e_int (nomark _)))))
 (b_ret (e_var 5 rfl))
 (b_nil () (.cons (.refl _) (.cons (.refl _) (.cons (.refl _) (.cons (.refl _) (.cons (.refl _) (.cons (.refl _) (.cons (.refl _) .nil))))))))
 (fun s8 => (b_ret (e_var 3 rfl))))))))))))⟩) ?_, F.bindsN fun _ _ _ _ _ _ us hl => match us, hl with | [_, _], _ => rfl⟩, F.kp, T.g_law_walks⟩
  intro y post ep h
  dsimp only [endP, seqP, endI]
  obtain ⟨⟨hv, h60⟩, hp⟩ := h
  have hz := sz
  have fw := hv.few
  refine ⟨len2, fun hl => if_dd (fun h0 => ⟨⟨by decide, by decide⟩, fun r r0 r1 => ⟨⟨by omega, by omega⟩, ?_⟩⟩) fun h0 => ⟨len0, fun hl => ⟨hl, ?_⟩⟩⟩
  · refine forR_ind (fun k (s : List (Tu Str)) => s.length = k ∧ ∀ w ∈ s, Walk (mkW y.1) w.l) (fun s hi => ?_) (fun k s next hk hn hi => ?_) _ ⟨rfl, fun _ h => nomatch h⟩
    · obtain ⟨i1, i2⟩ := hi
      have ok : WalksOk y.1 s := ⟨by omega, i2⟩
      refine ⟨by omega, fun hl => ⟨hl, lcP_eq (fun w : Tu Str => !((nms ["source", "tank"] y.1).any fun m => m == (w.l.getLast?).getD "")) (fun w => w) _ (fun w hw P ep p => ?_) (fun _ _ _ P ep p => p) ?_⟩⟩
      · obtain ⟨a, ps, x⟩ := walk_x hv (i2 w hw)
        have : ∃ e, w.l.getLast? = some e := by
          rw [x.e, flat_last]
          cases e : (a :: ps.map (·.2)).getLast? with
          | none => simp at e
          | some u => exact ⟨u, rfl⟩
        obtain ⟨e, he⟩ := this
        rw [he] at p
        exact ⟨e, by rw [atI_last]; exact he, p⟩
      · rw [List.map_id']
        intro _
        generalize hE : s.filter (fun w : Tu Str => !((nms ["source", "tank"] y.1).any fun m => m == (w.l.getLast?).getD "")) = E
        have ok2 : WalksOk y.1 E := by
          have := List.length_filter_le (fun w : Tu Str => !((nms ["source", "tank"] y.1).any fun m => m == (w.l.getLast?).getD "")) s
          rw [hE] at this
          exact ⟨by omega, fun w hw => i2 w (by rw [← hE] at hw; exact (List.mem_filter.mp hw).1)⟩
        exact if_dd (fun _ => ⟨⟨by decide, by decide⟩, fun _ _ _ => if_dd (fun _ => hp _ ok2) fun _ => hp _ ok⟩) fun _ => if_f (hp _ ok)
    · obtain ⟨i1, i2⟩ := hi
      refine ⟨⟨hv, h60, rfl, fun e => ?_⟩, fun p hw => ⟨by omega, hn _ ⟨by rw [List.length_append, i1]; rfl, fun w hm => ?_⟩⟩⟩
      · rw [e] at h0
        exact absurd h0 (by decide)
      · rcases List.mem_append.mp hm with hm | hm
        · exact i2 w hm
        · rw [List.mem_singleton.mp hm]
          exact hw
  · have ok : WalksOk y.1 [] := ⟨by decide, fun _ h => nomatch h⟩
    show _ → _
    intro _
    exact if_dF (by decide) (if_f (hp _ ok))
theorem sc_law_times : FnScope ["bag", "rows", "path", "costs", "way", "row"] ["bag", "rows", "path"] (defScope s_law_times) := ⟨rfl, rfl, rfl, by decide +kernel, rfl, by decide +kernel, by decide +kernel⟩
theorem ok_law_times (T : Txt w K mg) : Ok pw w K mg base "_law_times" (He.fAd K ("_law_times", none)) 2 ["bag", "rows", "path"] (spR K (rsH 4) (fun q => (aRf q (aCons (rpL (i := rpRow)) (aCons (rpT (i := rpS)) aNil)))) rpI (fun x post _ => (VRows x.1 ∧ x.1.length ≤ 60) ∧ ∀ n : Int, 1 ≤ n → n ≤ 1000 → post n)) := by
  obtain ⟨fd_law_take, F_law_take, B_law_take⟩ := (ok_law_take (w := w) (base := base) T).ex
  have K_law_take := (ok_law_take (w := w) (base := base) T).kp
  have G_law_take := (ok_law_take (w := w) (base := base) T).gm
  obtain ⟨fd, F⟩ := T.d_law_times
  have nd := sc_law_times.nd
  refine ⟨⟨fd, fn_okR F sc_law_times (fun _ _ => rfl) (fun q y cdv A outer s H G E hr => ⟨_, (b_setLc 3 rfl nd (blkOk_by (own := [("row", 5)]) (by show blkC ["bag", "rows", "path", "costs", "way", "row"] (defScope s_law_times) _ _ = true; decide +kernel)) (by decide) rfl (i_lst (e_var 1 rfl)) (fun _ _ _ _ _ => (g_name 5 nd)) (fun _ _ _ _ _ c2 => (JTs.conv (ts_one (t_pw (tw_and (t_cmp eq_V (e_dn dnS (e_ix ix_T (e_up upRow (e_var 5 rfl)) e_int)) e_str (nomark _)) (tw_and1 (t_cmp in_T (e_dn dnS (e_ix ix_T (e_up upRow (e_var 5 rfl)) e_int)) (e_var 2 rfl) rfl))))) (by first | rfl | (dsimp only [Cx.blk] <;> rfl)) (by first | rfl | (dsimp only [Cx.blk] <;> rfl)))) (fun _ _ _ _ _ c2 => (JE.conv (e_dn dnI (e_ix ix_T (e_up upRow (e_var 5 rfl)) e_int)) (by first | rfl | (dsimp only [Cx.blk] <;> rfl)) (by first | rfl | (dsimp only [Cx.blk] <;> rfl))))
 (fun costs_1 => (b_set 4 nd (e_callR rfl F_law_take (hr.mono (by decide)) G_law_take K_law_take B_law_take (takes_of rfl rfl rfl rfl) (a_rf 0 rfl (a_cons e_int a_nil)))
 (fun way_3 => (b_if (mid := fun s4 : Unit => [.rf q, .val (rpL (i := rpRow)) y.1, .val (rpT (i := rpS)) y.2.1, .val (rpL (i := rpI)) costs_1, .val rpI way_3, .no]) (t_pw (tw_and (t_cmp lt_I (e_var 4 rfl) e_int (nomark _)) (tw_and1 (t_cmp gt_I (e_cb len_L T.f_len (a_cons (e_var 3 rfl) a_nil)) e_int (nomark _)))))
 (b_ret (e_cb (max_I rfl) T.f_max (a_cons e_int (a_cons (e_op sub_I (e_op add_I (e_ix ix_L (e_var 3 rfl) (e_callR rfl F_law_take (hr.mono (by decide)) G_law_take K_law_take B_law_take (takes_of rfl rfl rfl rfl) (a_rf 0 rfl (a_cons (e_cb len_L T.f_len (a_cons (e_var 3 rfl) a_nil)) a_nil)))) (e_callR rfl F_law_take (hr.mono (by decide)) G_law_take K_law_take B_law_take (takes_of rfl rfl rfl rfl) (a_rf 0 rfl (a_cons e_int a_nil)))) e_int) a_nil))))
 (b_nil () (.cons (.refl _) (.cons (.refl _) (.cons (.refl _) (.cons (.refl _) (.cons (.refl _) (.cons (.refl _) .nil)))))))
 (fun s4 => (b_if (mid := fun s5 : Unit => [.rf q, .val (rpL (i := rpRow)) y.1, .val (rpT (i := rpS)) y.2.1, .val (rpL (i := rpI)) costs_1, .val rpI way_3, .no]) (t_cmp lt_I (e_var 4 rfl) e_int (nomark _))
 (b_ret (e_op add_I e_int (e_callR rfl F_law_take (hr.mono (by decide)) G_law_take K_law_take B_law_take (takes_of rfl rfl rfl rfl) (a_rf 0 rfl (a_cons e_int a_nil)))))
 (b_nil () (.cons (.refl _) (.cons (.refl _) (.cons (.refl _) (.cons (.refl _) (.cons (.refl _) (.cons (.refl _) .nil)))))))
 (fun s5 => (b_ret (e_op add_I e_int (e_callR rfl F_law_take (hr.mono (by decide)) G_law_take K_law_take B_law_take (takes_of rfl rfl rfl rfl) (a_rf 0 rfl (a_cons e_int a_nil)))))))))))))⟩) ?_, F.bindsN fun _ _ _ _ _ _ us hl => match us, hl with | [_, _, _], _ => rfl⟩, F.kp, T.g_law_times⟩
  intro y post ep h
  dsimp only [endP, seqP, endI]
  obtain ⟨⟨hv, h60⟩, hp⟩ := h
  have hz := sz
  have fw := hv.few
  refine fun hl => ⟨hl, lcP_eq (fun r : Row => decide (r.kind = ("valve" : Str)) && decide (r.name ∈ y.2.1.l)) (fun r => match r with
    | .valve _ _ _ _ c => c
    | _ => (0 : Int)) _ (fun r hr P ep p => ⟨_, enc0 r, _, rfl, if_dd (fun h => ⟨_, enc1 r, _, rfl, by rw [any_mem]; rw [decide_eq_true h] at p; exact p⟩) fun h => by rw [decide_eq_false h] at p; exact p⟩) (fun r hr hk P ep p => ?_) ?_⟩
  · cases r with
    | valve n a b q c => exact ⟨_, rfl, c, rfl, p⟩
    | _ =>
      rw [Bool.and_eq_true] at hk
      exact absurd (of_decide_eq_true hk.1) (by simp only [Row.kind]; decide)
  generalize hM : ((y.1.filter fun r : Row => decide (r.kind = ("valve" : Str)) && decide (r.name ∈ y.2.1.l)).map fun r => match r with
    | .valve _ _ _ _ c => c
    | _ => (0 : Int)) = M
  have bM : ∀ c ∈ M, 1 ≤ c ∧ c ≤ 99 := fun c hc => by
    rw [← hM] at hc
    obtain ⟨r, hr, e⟩ := List.mem_map.mp hc
    obtain ⟨h1, h2⟩ := List.mem_filter.mp hr
    rw [Bool.and_eq_true] at h2
    have hk := of_decide_eq_true h2.1
    obtain ⟨a, b, p, c', q1, q2, q3⟩ := valve_of hv (mem_nms.mpr ⟨r, h1, by rw [hk]; exact List.mem_cons_self, rfl⟩)
    have := one_row hv h1 q1 rfl
    rw [this] at e
    dsimp only at e
    rw [← e]
    exact q3
  have lM : M.length ≤ 58 := by
    rw [← hM, List.length_map]
    have := List.length_filter_le (fun r : Row => decide (r.kind = ("valve" : Str)) && decide (r.name ∈ y.2.1.l)) y.1
    omega
  have rest : ∀ r : Int, if decide (r < 4) = true then (0 < (9 : Int) ∧ (9 : Int) < 1073741824) ∧ ∀ (r : Int), 0 ≤ r → r < 9 → post (1 + r) else (0 < (999 : Int) ∧ (999 : Int) < 1073741824) ∧ ∀ (r : Int), 0 ≤ r → r < 999 → post (1 + r) := fun r => if_dd (fun _ => ⟨⟨by decide, by decide⟩, fun r r0 r1 => hp _ (by omega) (by omega)⟩) fun _ => ⟨⟨by decide, by decide⟩, fun r r0 r1 => hp _ (by omega) (by omega)⟩
  refine ⟨⟨by decide, by decide⟩, fun r r0 r1 => if_dd (fun _ _ => if_dd (fun h0 _ => ⟨⟨h0, by omega⟩, fun j j0 j1 => ex_at j0 j1 fun c hc _ => ⟨⟨by decide, by decide⟩, fun q q0 q1 => ?_⟩⟩) fun _ => rest r) fun _ => if_f (rest r)⟩
  have := bM c hc
  exact hp _ (by omega) (by omega)
theorem sc_law_parted : FnScope ["bag", "pairs", "parted", "pair", "some"] ["bag", "pairs"] (defScope s_law_parted) := ⟨rfl, rfl, rfl, by decide +kernel, rfl, by decide +kernel, by decide +kernel⟩
theorem ok_law_parted (T : Txt w K mg) : Ok pw w K mg base "_law_parted" (He.fAd K ("_law_parted", none)) 2 ["bag", "pairs"] (spR K (rsH 4) (fun q => (aRf q (aCons (rpL (i := (rp2 (i := (rpT (i := rpS))) (j := rpI)))) aNil))) (rpT (i := (rp2 (i := (rpT (i := rpS))) (j := rpI)))) (fun x post _ => (x.1.length ≤ 6 ∧ ∀ p ∈ x.1, 1 ≤ p.2 ∧ p.2 ≤ 1000) ∧ ∀ qs, Parted x.1 qs → qs.length ≤ 12 → (∀ q ∈ qs, (1 ≤ q.2 ∧ q.2 ≤ 1000) ∧ ∃ p ∈ x.1, p.1 = q.1) → post ⟨qs⟩)) := by
  obtain ⟨fd_law_take, F_law_take, B_law_take⟩ := (ok_law_take (w := w) (base := base) T).ex
  have K_law_take := (ok_law_take (w := w) (base := base) T).kp
  have G_law_take := (ok_law_take (w := w) (base := base) T).gm
  obtain ⟨fd, F⟩ := T.d_law_parted
  have nd := sc_law_parted.nd
  refine ⟨⟨fd, fn_okR F sc_law_parted (fun _ _ => rfl) (fun q y cdv A outer s H G E hr => ⟨_, (b_new (rp2 (i := (rpT (i := rpS))) (j := rpI)) 2 nd (b_for (lpS := fun s1 : (List ((Tu Str) × Int)) => [.rf q, .val (rpL (i := (rp2 (i := (rpT (i := rpS))) (j := rpI)))) y.1, .ml (rp2 (i := (rpT (i := rpS))) (j := rpI)) s1, .no, .no]) [] (.cons (.refl _) (.cons (.refl _) (.cons (.refl _) (.cons (.refl _) (.cons (.refl _) .nil))))) (passes_of rfl) rfl (i_lst (e_var 1 rfl)) (g_name 3 nd)
 (fun x2 s1 => (b_ifE (t_cmp gt_I (e_ix ix_2b (e_var 3 rfl) e_int) e_int (nomark _))
 (b_set 4 nd (e_op add_I e_int (e_callR rfl F_law_take (hr.mono (by decide)) G_law_take K_law_take B_law_take (takes_of rfl rfl rfl rfl) (a_rf 0 rfl (a_cons (e_op sub_I (e_ix ix_2b (e_var 3 rfl) e_int) e_int) a_nil))))
 (fun some_3 => (b_own 2 nd (jf_lend (lend_ml 2 rfl) (jf_add (e_op add_L (e_list (iα := (rp2 (i := (rpT (i := rpS))) (j := rpI))) (a_cons (e_tup2 (a_cons (e_ix ix_2a (e_var 3 rfl) e_int) (a_cons (e_var 4 rfl) a_nil))) a_nil) (.cons .nil)) (e_var 2 rfl)) (e_list (iα := (rp2 (i := (rpT (i := rpS))) (j := rpI))) (a_cons (e_tup2 (a_cons (e_ix ix_2a (e_var 3 rfl) e_int) (a_cons (e_op sub_I (e_ix ix_2b (e_var 3 rfl) e_int) (e_var 4 rfl)) a_nil))) a_nil) (.cons .nil))))
 (fun m4 => (b_nil m4 (.cons (.refl _) (.cons (.refl _) (.cons (.refl _) (.cons (.no _) (.cons (.no _) .nil))))))))))
 (b_app1 2 rfl (e_var 3 rfl)
 (fun m5 => (b_nil (s1 ++ [m5]) (.cons (.refl _) (.cons (.refl _) (.cons (.refl _) (.cons (.no _) (.cons (.refl _) .nil))))))))))
 (fun s1 => (b_ret (e_lend (lend_ml 2 rfl) (e_ct tuple_L T.f_tuple (a_cons (e_var 2 rfl) a_nil)))))))⟩) ?_, F.bindsN fun _ _ _ _ _ _ us hl => match us, hl with | [_, _], _ => rfl⟩, F.kp, T.g_law_parted⟩
  intro y post ep h
  dsimp only [endP, seqP, endI]
  obtain ⟨⟨h6, hb⟩, hp⟩ := h
  have hz := sz
  intro _
  refine forP_ind (fun rest (s : Pairs) => (∀ p ∈ rest, p ∈ y.1) ∧ (∀ f, sumBy f s + sumBy f rest = sumBy f y.1) ∧ s.length + 2 * rest.length ≤ 12 ∧ ∀ q ∈ s, (1 ≤ q.2 ∧ q.2 ≤ 1000) ∧ ∃ p ∈ y.1, p.1 = q.1) (fun s hi => ?_) (fun p rest s next hn hi => ?_) _ _ ⟨fun _ h => h, fun f => by show 0 + _ = _; omega, by simp only [List.length_nil]; omega, fun _ h => nomatch h⟩
  · obtain ⟨_, i2, i3, i4⟩ := hi
    rw [List.length_nil] at i3
    refine ⟨by omega, hp s (fun f => ?_) (by omega) i4⟩
    have := i2 f
    rw [show sumBy f [] = 0 from rfl] at this
    omega
  · obtain ⟨i1, i2, i3, i4⟩ := hi
    have hm := i1 p List.mem_cons_self
    have hpb := hb p hm
    rw [List.length_cons] at i3
    have i1' : ∀ q ∈ rest, q ∈ y.1 := fun q hq => i1 q (List.mem_cons_of_mem _ hq)
    refine ⟨rfl, if_dd (fun h1 => ⟨rfl, ⟨by omega, by omega⟩, fun r r0 r1 => ⟨by omega, rfl, len1, by rw [List.length_singleton]; omega, rfl, rfl, len1, by rw [List.length_append, List.length_singleton, List.length_singleton]; omega, hn _ ⟨i1', fun f => ?_, ?_, fun q hq => ?_⟩⟩⟩) fun h1 => ⟨by omega, hn _ ⟨i1', fun f => ?_, ?_, fun q hq => ?_⟩⟩⟩
    · have := i2 f
      rw [sumBy_cons] at this
      rw [sumBy_app, sumBy_app, sumBy_cons, sumBy_cons, show sumBy f [] = 0 from rfl]
      dsimp only
      split at this <;> rename_i z <;> simp only [z, if_true, if_false] <;> simp <;> omega
    · rw [List.length_append, List.length_append, List.length_singleton, List.length_singleton]
      omega
    · rcases List.mem_append.mp hq with hq | hq
      · rcases List.mem_append.mp hq with hq | hq
        · rw [List.mem_singleton.mp hq]
          exact ⟨⟨by dsimp only; omega, by dsimp only; omega⟩, p, hm, rfl⟩
        · exact i4 q hq
      · rw [List.mem_singleton.mp hq]
        exact ⟨⟨by dsimp only; omega, by dsimp only; omega⟩, p, hm, rfl⟩
    · have := i2 f
      rw [sumBy_cons] at this
      rw [sumBy_app, sumBy_cons, show sumBy f [] = 0 from rfl]
      omega
    · rw [List.length_append, List.length_singleton]
      omega
    · rcases List.mem_append.mp hq with hq | hq
      · exact i4 q hq
      · rw [List.mem_singleton.mp hq]
        exact ⟨hpb, p, hm, rfl⟩
theorem sc_law_values_right : FnScope ["works", "rows", "many", "pairs", "parted", "k", "due", "other"] ["works", "rows", "many", "pairs", "parted"] (defScope s_law_values_right) := ⟨rfl, rfl, rfl, by decide +kernel, rfl, by decide +kernel, by decide +kernel⟩
theorem ok_law_values_right (T : Txt w K mg) : Ok pw w K mg base "_law_values_right" (He.fAd K ("_law_values_right", none)) 6 ["works", "rows", "many", "pairs", "parted"] (spOf K rs0 (aCons rpWk (aCons (rpL (i := rpRow)) (aCons rpI (aCons (rpT (i := (rp2 (i := (rpT (i := rpS))) (j := rpI)))) (aCons (rpT (i := (rp2 (i := (rpT (i := rpS))) (j := rpI)))) aNil))))) rpB (fun x post _ => (VRows x.2.1 ∧ x.2.1.length ≤ 60 ∧ x.1 = mkW x.2.1 ∧ (1 ≤ x.2.2.1 ∧ x.2.2.1 ≤ 4) ∧ PairsOk x.2.1 6 x.2.2.2.1.l ∧ PairsOk x.2.1 12 x.2.2.2.2.1.l ∧ Parted x.2.2.2.1.l x.2.2.2.2.1.l) ∧ post true)) := by
  obtain ⟨fd_law_integer, F_law_integer, B_law_integer⟩ := (ok_law_integer (w := w) (base := base) T).ex
  have K_law_integer := (ok_law_integer (w := w) (base := base) T).kp
  have G_law_integer := (ok_law_integer (w := w) (base := base) T).gm
  obtain ⟨fd_law_value, F_law_value, B_law_value⟩ := (ok_law_value (w := w) (base := base) T).ex
  have K_law_value := (ok_law_value (w := w) (base := base) T).kp
  have G_law_value := (ok_law_value (w := w) (base := base) T).gm
  obtain ⟨fd_list_value, F_list_value, B_list_value⟩ := (ok_list_value (w := w) (base := base) T).ex
  have K_list_value := (ok_list_value (w := w) (base := base) T).kp
  have G_list_value := (ok_list_value (w := w) (base := base) T).gm
  obtain ⟨fd, F⟩ := T.d_law_values_right
  have nd := sc_law_values_right.nd
  refine ⟨⟨fd, fn_ok F sc_law_values_right (fun _ => rfl) (fun y cdv A outer s H G E hr => ⟨_, (b_for (lpS := fun s1 : Unit => [.val rpWk y.1, .val (rpL (i := rpRow)) y.2.1, .val rpI y.2.2.1, .val (rpT (i := (rp2 (i := (rpT (i := rpS))) (j := rpI)))) y.2.2.2.1, .val (rpT (i := (rp2 (i := (rpT (i := rpS))) (j := rpI)))) y.2.2.2.2.1, .no, .no, .no]) () (.cons (.refl _) (.cons (.refl _) (.cons (.refl _) (.cons (.refl _) (.cons (.refl _) (.cons (.refl _) (.cons (.refl _) (.cons (.refl _) .nil)))))))) (passes_of rfl) rfl (i_rng1 (by rfl) T.f_range (a_cons (e_op add_I (e_cb len_T T.f_len (a_cons (e_var 3 rfl) a_nil)) e_int) a_nil)) (g_name 5 nd)
 (fun x2 s1 => (b_ifE (t_not (t_val (e_call F_law_integer (hr.mono (by decide)) G_law_integer K_law_integer B_law_integer (takes_of rfl rfl rfl rfl) (a_cons (e_call F_list_value (hr.mono (by decide)) G_list_value K_list_value B_list_value (takes_of rfl rfl rfl rfl) (a_cons (e_var 0 rfl) (a_cons (e_var 2 rfl) (a_cons (e_sl sl_TA (e_var 3 rfl) o_none (o_some (e_var 5 rfl))) a_nil)))) (a_cons (e_call F_law_value (hr.mono (by decide)) G_law_value K_law_value B_law_value (takes_of rfl rfl rfl rfl) (a_cons (e_var 1 rfl) (a_cons (e_var 2 rfl) (a_cons (e_sl sl_TA (e_var 3 rfl) o_none (o_some (e_var 5 rfl))) a_nil)))) a_nil)))))
 (b_ret e_bool)
 (b_nil () (.cons (.refl _) (.cons (.refl _) (.cons (.refl _) (.cons (.refl _) (.cons (.refl _) (.cons (.no _) (.cons (.refl _) (.cons (.refl _) .nil)))))))))))
 (fun s1 => (b_set 6 nd (e_call F_law_value (hr.mono (by decide)) G_law_value K_law_value B_law_value (takes_of rfl rfl rfl rfl) (a_cons (e_var 1 rfl) (a_cons (e_var 2 rfl) (a_cons (e_var 3 rfl) a_nil))))
 (fun due_3 => (b_if (mid := fun s4 : Unit => [.val rpWk y.1, .val (rpL (i := rpRow)) y.2.1, .val rpI y.2.2.1, .val (rpT (i := (rp2 (i := (rpT (i := rpS))) (j := rpI)))) y.2.2.2.1, .val (rpT (i := (rp2 (i := (rpT (i := rpS))) (j := rpI)))) y.2.2.2.2.1, .no, .val rpI due_3, .no]) (t_not (t_val (e_call F_law_integer (hr.mono (by decide)) G_law_integer K_law_integer B_law_integer (takes_of rfl rfl rfl rfl) (a_cons (e_call F_list_value (hr.mono (by decide)) G_list_value K_list_value B_list_value (takes_of rfl rfl rfl rfl) (a_cons (e_var 0 rfl) (a_cons (e_var 2 rfl) (a_cons (e_step (e_var 3 rfl) o_none o_none (o_some (e_un neg_I e_int))) a_nil)))) (a_cons (e_var 6 rfl) a_nil)))))
 (b_ret e_bool)
 (b_nil () (.cons (.refl _) (.cons (.refl _) (.cons (.refl _) (.cons (.refl _) (.cons (.refl _) (.cons (.refl _) (.cons (.refl _) (.cons (.refl _) .nil)))))))))
 (fun s4 => (b_if (mid := fun s5 : Unit => [.val rpWk y.1, .val (rpL (i := rpRow)) y.2.1, .val rpI y.2.2.1, .val (rpT (i := (rp2 (i := (rpT (i := rpS))) (j := rpI)))) y.2.2.2.1, .val (rpT (i := (rp2 (i := (rpT (i := rpS))) (j := rpI)))) y.2.2.2.2.1, .no, .val rpI due_3, .no]) (t_not (t_val (e_call F_law_integer (hr.mono (by decide)) G_law_integer K_law_integer B_law_integer (takes_of rfl rfl rfl rfl) (a_cons (e_call F_list_value (hr.mono (by decide)) G_list_value K_list_value B_list_value (takes_of rfl rfl rfl rfl) (a_cons (e_var 0 rfl) (a_cons (e_var 2 rfl) (a_cons (e_var 4 rfl) a_nil)))) (a_cons (e_var 6 rfl) a_nil)))))
 (b_ret e_bool)
 (b_nil () (.cons (.refl _) (.cons (.refl _) (.cons (.refl _) (.cons (.refl _) (.cons (.refl _) (.cons (.refl _) (.cons (.refl _) (.cons (.refl _) .nil)))))))))
 (fun s5 => (b_for (lpS := fun s6 : Unit => [.val rpWk y.1, .val (rpL (i := rpRow)) y.2.1, .val rpI y.2.2.1, .val (rpT (i := (rp2 (i := (rpT (i := rpS))) (j := rpI)))) y.2.2.2.1, .val (rpT (i := (rp2 (i := (rpT (i := rpS))) (j := rpI)))) y.2.2.2.2.1, .no, .val rpI due_3, .no]) () (.cons (.refl _) (.cons (.refl _) (.cons (.refl _) (.cons (.refl _) (.cons (.refl _) (.cons (.refl _) (.cons (.refl _) (.cons (.refl _) .nil)))))))) (passes_of rfl) rfl (i_tpl (e_tupT (a_cons e_int (a_cons e_int (a_cons e_int (a_cons e_int a_nil)))) (.cons (.cons (.cons (.cons .nil)))))) (g_name 7 nd)
 (fun x7 s6 => (b_ifE (t_not (t_val (e_call F_law_integer (hr.mono (by decide)) G_law_integer K_law_integer B_law_integer (takes_of rfl rfl rfl rfl) (a_cons (e_call F_list_value (hr.mono (by decide)) G_list_value K_list_value B_list_value (takes_of rfl rfl rfl rfl) (a_cons (e_var 0 rfl) (a_cons (e_var 7 rfl) (a_cons (e_var 3 rfl) a_nil)))) (a_cons (e_call F_law_value (hr.mono (by decide)) G_law_value K_law_value B_law_value (takes_of rfl rfl rfl rfl) (a_cons (e_var 1 rfl) (a_cons (e_var 7 rfl) (a_cons (e_var 3 rfl) a_nil)))) a_nil)))))
 (b_ret e_bool)
 (b_nil () (.cons (.refl _) (.cons (.refl _) (.cons (.refl _) (.cons (.refl _) (.cons (.refl _) (.cons (.refl _) (.cons (.refl _) (.cons (.no _) .nil)))))))))))
 (fun s6 => (b_ret e_bool)))))))))))⟩) ?_, F.bindsN fun _ _ _ _ _ _ us hl => match us, hl with | [_, _, _, _, _], _ => rfl⟩, F.kp, T.g_law_values_right⟩
  intro y post ep h
  dsimp only [endP, seqP, endI]
  obtain ⟨⟨hv, h60, e, hm, ⟨p1, p2⟩, ⟨q1, q2⟩, par⟩, hp⟩ := h
  have hz := sz
  have w : IsW y.1 := ⟨_, hv, e⟩
  have small : ∀ ps : Pairs, ps.length ≤ 12 → (∀ p ∈ ps, Walk (mkW y.2.1) p.1.l ∧ (1 ≤ p.2 ∧ p.2 ≤ 1000)) → SmallP ps := fun ps l h => ⟨by omega, fun p hp => by
    have := walk_few hv (h p hp).1
    have := (h p hp).2
    exact ⟨by omega, by omega, by omega⟩⟩
  have s1 := small _ (by omega) p2
  have o1 : PairsOk y.2.1 12 y.2.2.2.1.l := ⟨by omega, p2⟩
  intro _
  refine ⟨⟨by omega, by omega⟩, forAll _ (fun k hk P q => ?_) ⟨⟨hv, h60, hm, o1⟩, -1, rfl, ⟨by decide, by decide, by rw [cut_rev, List.length_reverse]; omega⟩, ?_⟩⟩
  · have sub : ∀ p ∈ cutL y.2.2.2.1.l none (some k), p ∈ y.2.2.2.1.l := fun p hp => List.mem_of_mem_drop (List.mem_of_mem_take hp)
    have le : (cutL y.2.2.2.1.l none (some k)).length ≤ 12 := by
      unfold cutL
      rw [List.length_take, List.length_drop]
      omega
    refine ⟨⟨w, hm, small _ le fun p hp => p2 p (sub p hp)⟩, ⟨hv, h60, hm, le, fun p hp => p2 p (sub p hp)⟩, if_nT (by rw [e]) q⟩
  · rw [cut_rev]
    have pr : Parted y.2.2.2.1.l y.2.2.2.1.l.reverse := fun f => sumBy_rev f _
    have sr : SmallP y.2.2.2.1.l.reverse := small _ (by rw [List.length_reverse]; omega) fun p hp => p2 p (List.mem_reverse.mp hp)
    refine ⟨⟨w, hm, sr⟩, if_nT (by rw [e]; exact value_parted pr) ⟨⟨w, hm, small _ q1 q2⟩, if_nT (by rw [e]; exact value_parted par) ⟨len4, fun _ => ?_⟩⟩⟩
    refine forAll _ (fun k hk P q => ?_) hp
    have hk4 : 1 ≤ k ∧ k ≤ 4 := by
      simp only [List.mem_cons, List.not_mem_nil, or_false] at hk
      omega
    exact ⟨⟨w, hk4, s1⟩, ⟨hv, h60, hk4, o1⟩, if_nT (by rw [e]) q⟩
theorem sc_law_path_right : FnScope ["works", "part", "path", "crossed", "many", "told"] ["works", "part", "path", "crossed"] (defScope s_law_path_right) := ⟨rfl, rfl, rfl, by decide +kernel, rfl, by decide +kernel, by decide +kernel⟩
theorem ok_law_path_right (T : Txt w K mg) : Ok pw w K mg base "_law_path_right" (He.fAd K ("_law_path_right", none)) 5 ["works", "part", "path", "crossed"] (spOf K rs0 (aCons rpWk (aCons (rpT (i := rpS)) (aCons (rpT (i := rpS)) (aCons rpI aNil)))) rpB (fun x post _ => (IsW x.1 ∧ PartOk x.1 x.2.1.l ∧ PathOk x.1 x.2.1.l x.2.2.1.l ∧ x.2.2.2.1 = vcnt x.2.2.1.l x.1.valves) ∧ post true)) := by
  obtain ⟨fd_is_path, F_is_path, B_is_path⟩ := (ok_is_path (w := w) (base := base) T).ex
  have K_is_path := (ok_is_path (w := w) (base := base) T).kp
  have G_is_path := (ok_is_path (w := w) (base := base) T).gm
  obtain ⟨fd_shows_open, F_shows_open, B_shows_open⟩ := (ok_shows_open (w := w) (base := base) T).ex
  have K_shows_open := (ok_shows_open (w := w) (base := base) T).kp
  have G_shows_open := (ok_shows_open (w := w) (base := base) T).gm
  obtain ⟨fd, F⟩ := T.d_law_path_right
  have nd := sc_law_path_right.nd
  refine ⟨⟨fd, fn_ok F sc_law_path_right (fun _ => rfl) (fun y cdv A outer s H G E hr => ⟨_, (b_if (mid := fun s1 : Unit => [.val rpWk y.1, .val (rpT (i := rpS)) y.2.1, .val (rpT (i := rpS)) y.2.2.1, .val rpI y.2.2.2.1, .no, .no]) (t_cmp isnot_B (e_call F_is_path (hr.mono (by decide)) G_is_path K_is_path B_is_path (takes_of rfl rfl rfl rfl) (a_cons (e_var 0 rfl) (a_cons (e_var 1 rfl) (a_cons (e_var 2 rfl) a_nil)))) e_bool (nomark _))
 (b_ret e_bool)
 (b_nil () (.cons (.refl _) (.cons (.refl _) (.cons (.refl _) (.cons (.refl _) (.cons (.refl _) (.cons (.refl _) .nil)))))))
 (fun s1 => (b_for (lpS := fun s2 : Unit => [.val rpWk y.1, .val (rpT (i := rpS)) y.2.1, .val (rpT (i := rpS)) y.2.2.1, .val rpI y.2.2.2.1, .no, .no]) () (.cons (.refl _) (.cons (.refl _) (.cons (.refl _) (.cons (.refl _) (.cons (.refl _) (.cons (.refl _) .nil)))))) (passes_of rfl) rfl (i_tpl (e_tupT (a_cons e_int (a_cons e_int (a_cons e_int (a_cons e_int a_nil)))) (.cons (.cons (.cons (.cons .nil)))))) (g_name 4 nd)
 (fun x3 s2 => (b_set 5 nd (e_call F_shows_open (hr.mono (by decide)) G_shows_open K_shows_open B_shows_open (takes_of rfl rfl rfl rfl) (a_cons (e_var 0 rfl) (a_cons (e_var 1 rfl) (a_cons (e_var 4 rfl) (a_cons (e_var 2 rfl) a_nil)))))
 (fun told_4 => (b_ifE (t_pw (tw_or (t_not (t_val (e_cb (isiw (cv := .ty "bool") (u := .type "bool") (b := true) tyB (.ty _) (L2.kit_ty (by decide +kernel))) T.f_isinstance (a_cons (e_var 5 rfl) (a_cons (e_clsB T.f_bool) a_nil))))) (tw_or1 (t_cmp ne_V (e_var 5 rfl) (e_cmp lt_I (e_var 3 rfl) (e_var 4 rfl) (nomark _)) (nomark _)))))
 (b_ret e_bool)
 (b_nil () (.cons (.refl _) (.cons (.refl _) (.cons (.refl _) (.cons (.refl _) (.cons (.no _) (.cons (.no _) .nil)))))))))))
 (fun s2 => (b_ret e_bool)))))⟩) ?_, F.bindsN fun _ _ _ _ _ _ us hl => match us, hl with | [_, _, _, _], _ => rfl⟩, F.kp, T.g_law_path_right⟩
  intro y post ep h
  dsimp only [endP, seqP, endI]
  obtain ⟨⟨w, hq, hx, e⟩, hp⟩ := h
  refine ⟨⟨w, hq, hx⟩, if_nT rfl ⟨len4, fun _ => forAll _ (fun k hk P q => ?_) hp⟩⟩
  have hk4 : 1 ≤ k ∧ k ≤ 4 := by
    simp only [List.mem_cons, List.not_mem_nil, or_false] at hk
    omega
  exact ⟨⟨w, hq, hx, hk4⟩, if_nt (if_nT (by rw [e]) q)⟩
theorem sc_law_crossing_set : FnScope ["bag", "rows", "part", "many", "valves", "chosen", "pool", "k", "name", "fewer", "least", "one"] ["bag", "rows", "part", "many", "valves"] (defScope s_law_crossing_set) := ⟨rfl, rfl, rfl, by decide +kernel, rfl, by decide +kernel, by decide +kernel⟩
theorem ok_law_crossing_set (T : Txt w K mg) : Ok pw w K mg base "_law_crossing_set" (He.fAd K ("_law_crossing_set", none)) 3 ["bag", "rows", "part", "many", "valves"] (spR K (rsH 4) (fun q => (aRf q (aCons (rpL (i := rpRow)) (aCons (rpT (i := rpS)) (aCons rpI (aCons (rpL (i := rpS)) aNil)))))) (rpT (i := rpS)) (fun x post _ => (VRows x.1 ∧ x.1.length ≤ 60 ∧ x.2.2.2.1 = nms ["valve"] x.1 ∧ (∀ path, PathOk (mkW x.1) x.2.1.l path → x.2.2.1 ≤ vcnt path x.2.2.2.1)) ∧ ∀ cs, CrossOk x.1 x.2.1.l x.2.2.1 x.2.2.2.1 cs → post ⟨cs⟩)) := by
  obtain ⟨fd_law_take, F_law_take, B_law_take⟩ := (ok_law_take (w := w) (base := base) T).ex
  have K_law_take := (ok_law_take (w := w) (base := base) T).kp
  have G_law_take := (ok_law_take (w := w) (base := base) T).gm
  obtain ⟨fd_law_least, F_law_least, B_law_least⟩ := (ok_law_least (w := w) (base := base) T).ex
  have K_law_least := (ok_law_least (w := w) (base := base) T).kp
  have G_law_least := (ok_law_least (w := w) (base := base) T).gm
  obtain ⟨fd, F⟩ := T.d_law_crossing_set
  have nd := sc_law_crossing_set.nd
  refine ⟨⟨fd, fn_okR F sc_law_crossing_set (fun _ _ => rfl) (fun q y cdv A outer s H G E hr => ⟨_, (b_set 5 nd (e_ct list_L T.f_list (a_cons (e_var 4 rfl) a_nil))
 (fun chosen_1 => (b_own 6 nd (jf_lstL T.f_list (e_var 4 rfl))
 (fun m2 => (b_for (lpS := fun s3 : (List Str) × (List Str) => [.rf q, .val (rpL (i := rpRow)) y.1, .val (rpT (i := rpS)) y.2.1, .val rpI y.2.2.1, .val (rpL (i := rpS)) y.2.2.2.1, .val (rpL (i := rpS)) s3.1, .ml rpS s3.2, .no, .no, .no, .no, .no]) (chosen_1, m2) (.cons (.refl _) (.cons (.refl _) (.cons (.refl _) (.cons (.refl _) (.cons (.refl _) (.cons (.refl _) (.cons (.refl _) (.cons (.refl _) (.cons (.refl _) (.cons (.refl _) (.cons (.refl _) (.cons (.refl _) .nil)))))))))))) (passes_of rfl) rfl (i_rng1 (by rfl) T.f_range (a_cons (e_cb len_L T.f_len (a_cons (e_var 4 rfl) a_nil)) a_nil)) (g_name 7 nd)
 (fun x4 s3 => (b_pop 8 6 rfl nd (by decide) (e_lend (lend_ml 6 rfl) (e_callR rfl F_law_take (hr.mono (by decide)) G_law_take K_law_take B_law_take (takes_of rfl rfl rfl rfl) (a_rf 0 rfl (a_cons (e_cb len_L T.f_len (a_cons (e_var 6 rfl) a_nil)) a_nil))))
 (fun m5 ys6 => (b_setLc 9 rfl nd (blkOk_by (own := [("one", 11)]) (by show blkC ["bag", "rows", "part", "many", "valves", "chosen", "pool", "k", "name", "fewer", "least", "one"] (defScope s_law_crossing_set) _ _ = true; decide +kernel)) (by decide) rfl (i_lst (e_var 5 rfl)) (fun _ _ _ _ _ => (g_name 11 nd)) (fun _ _ _ _ _ c8 => (JTs.conv (ts_one (t_cmp ne_V (e_var 11 rfl) (e_var 8 rfl) (nomark _))) (by first | rfl | (dsimp only [Cx.blk] <;> rfl)) (by first | rfl | (dsimp only [Cx.blk] <;> rfl)))) (fun _ _ _ _ _ c8 => (e_var 11 rfl))
 (fun fewer_7 => (b_set 10 nd (e_call F_law_least (hr.mono (by decide)) G_law_least K_law_least B_law_least (takes_of rfl rfl rfl rfl) (a_cons (e_var 1 rfl) (a_cons (e_var 2 rfl) (a_cons (e_var 9 rfl) a_nil))))
 (fun least_9 => (b_ifE (t_pw (tw_and (t_cmp gt_I (e_callR rfl F_law_take (hr.mono (by decide)) G_law_take K_law_take B_law_take (takes_of rfl rfl rfl rfl) (a_rf 0 rfl (a_cons e_int a_nil))) e_int (nomark _)) (tw_and1 (t_pw (tw_or (t_cmp lt_I (e_var 10 rfl) e_int (nomark _)) (tw_or1 (t_cmp ge_I (e_var 10 rfl) (e_var 3 rfl) (nomark _))))))))
 (b_set 5 nd (e_var 9 rfl)
 (fun chosen_10 => (b_nil (chosen_10, ys6) (.cons (.refl _) (.cons (.refl _) (.cons (.refl _) (.cons (.refl _) (.cons (.refl _) (.cons (.refl _) (.cons (.refl _) (.cons (.no _) (.cons (.no _) (.cons (.no _) (.cons (.no _) (.cons (.refl _) .nil)))))))))))))))
 (b_nil (s3.1, ys6) (.cons (.refl _) (.cons (.refl _) (.cons (.refl _) (.cons (.refl _) (.cons (.refl _) (.cons (.refl _) (.cons (.refl _) (.cons (.no _) (.cons (.no _) (.cons (.no _) (.cons (.no _) (.cons (.refl _) .nil)))))))))))))))))))))
 (fun s3 => (b_ret (e_ct tuple_L T.f_tuple (a_cons (e_var 5 rfl) a_nil)))))))))⟩) ?_, F.bindsN fun _ _ _ _ _ _ us hl => match us, hl with | [_, _, _, _, _], _ => rfl⟩, F.kp, T.g_law_crossing_set⟩
  intro y post ep h
  dsimp only [endP, seqP, endI]
  obtain ⟨⟨hv, h60, e, hc⟩, hp⟩ := h
  have hz := sz
  have fv := few_valves hv
  have nd := nms_nd hv ["valve"]
  rw [← e] at fv nd
  intro _
  refine ⟨⟨by omega, by omega⟩, ?_⟩
  refine forR_ind (fun k (s : List Str × List Str) => CrossOk y.1 y.2.1.l y.2.2.1 y.2.2.2.1 s.1 ∧ s.2.length + k = y.2.2.2.1.length) (fun s hi => hp _ hi.1) (fun k s next hk hn hi => ?_) _ ⟨⟨nd, fun _ h => h, hc⟩, by rfl⟩
  obtain ⟨⟨i1, i2, i3⟩, i4⟩ := hi
  have sl : s.1.length ≤ 8 := by
    have := nodup_len i1 i2
    omega
  refine ⟨by omega, fun _ => ⟨⟨by omega, by omega⟩, fun r r0 r1 => ⟨⟨r0, r1, by omega⟩, fun m hm _ => ⟨by omega, ?_⟩⟩⟩⟩
  refine lcP_eq (fun n => !decide (n = m)) (fun n => n) _ (fun _ _ _ _ p => p) (fun _ _ _ _ _ p => p) ?_
  rw [List.map_id']
  have el : (s.2.eraseIdx r.toNat).length + (k + 1) = y.2.2.2.1.length := by
    rw [List.length_eraseIdx, if_pos (by omega)]
    omega
  have stay : next (s.1, s.2.eraseIdx r.toNat) := hn _ ⟨⟨i1, i2, i3⟩, el⟩
  refine ⟨⟨hv, h60⟩, fun n hn2 => ⟨⟨by decide, by decide⟩, fun q _ _ => if_dd (fun _ => if_dd (fun hn0 => if_t ?_) fun hn0 => if_dd (fun hge => ?_) fun _ => stay) fun _ => if_f stay⟩⟩
  · refine hn _ ⟨⟨i1.sublist List.filter_sublist, fun c hcm => i2 c (List.mem_filter.mp hcm).1, fun path hx => ?_⟩, el⟩
    have := (hn2 path hx).1
    omega
  · refine hn _ ⟨⟨i1.sublist List.filter_sublist, fun c hcm => i2 c (List.mem_filter.mp hcm).1, fun path hx => ?_⟩, el⟩
    have := (hn2 path hx).2
    show y.2.2.1 ≤ ((vcnt path (s.1.filter fun n => !decide (n = m)) : Nat) : Int)
    omega
end
end K17

set_option Elab.async false
set_option linter.all false
set_option maxRecDepth 100000
set_option maxHeartbeats 1000000
set_option autoImplicit false
namespace K17
open PySem PySem.Spec PyProof.Rows L2 Ty NdefX
section
variable {w : World} {K : Fg} {mg : Str → Option Value} {base : Heap}
theorem sc_law : FnScope ["script", "bag", "counts", "shape", "rows", "works", "places", "valves", "walks", "part", "path", "more", "least", "many", "pairs", "k", "chosen", "cost", "due", "row", "one"] ["script"] (defScope s_law) := ⟨rfl, rfl, rfl, by decide +kernel, rfl, by decide +kernel, by decide +kernel⟩
theorem ok_law (T : Txt w K mg) : ∃ fd, FunD K "law" "law" (defArgs s_law) (defBody s_law) (defScope s_law) [] [] (He.fAd K ("law", none)) fd ∧ ∀ base : Heap, FnOk pw w K mg base (L2.CX pw w) 9 (He.fAd K ("law", none)) fd ["script"] (spL K 63) := by
  obtain ⟨fd, F⟩ := T.d_law
  refine ⟨fd, F, fun base => ?_⟩
  obtain ⟨fd_law_take, F_law_take, B_law_take⟩ := (ok_law_take (w := w) (base := base) T).ex
  have K_law_take := (ok_law_take (w := w) (base := base) T).kp
  have G_law_take := (ok_law_take (w := w) (base := base) T).gm
  obtain ⟨fd_law_rows, F_law_rows, B_law_rows⟩ := (ok_law_rows (w := w) (base := base) T).ex
  have K_law_rows := (ok_law_rows (w := w) (base := base) T).kp
  have G_law_rows := (ok_law_rows (w := w) (base := base) T).gm
  obtain ⟨fd_Works, F_Works, B_Works⟩ := (ok_Works_init (w := w) (base := base) T).ex
  obtain ⟨fd_law_names, F_law_names, B_law_names⟩ := (ok_law_names (w := w) (base := base) T).ex
  have K_law_names := (ok_law_names (w := w) (base := base) T).kp
  have G_law_names := (ok_law_names (w := w) (base := base) T).gm
  obtain ⟨fd_law_walks, F_law_walks, B_law_walks⟩ := (ok_law_walks (w := w) (base := base) T).ex
  have K_law_walks := (ok_law_walks (w := w) (base := base) T).kp
  have G_law_walks := (ok_law_walks (w := w) (base := base) T).gm
  obtain ⟨fd_law_least, F_law_least, B_law_least⟩ := (ok_law_least (w := w) (base := base) T).ex
  have K_law_least := (ok_law_least (w := w) (base := base) T).kp
  have G_law_least := (ok_law_least (w := w) (base := base) T).gm
  obtain ⟨fd_law_path_right, F_law_path_right, B_law_path_right⟩ := (ok_law_path_right (w := w) (base := base) T).ex
  have K_law_path_right := (ok_law_path_right (w := w) (base := base) T).kp
  have G_law_path_right := (ok_law_path_right (w := w) (base := base) T).gm
  obtain ⟨fd_law_times, F_law_times, B_law_times⟩ := (ok_law_times (w := w) (base := base) T).ex
  have K_law_times := (ok_law_times (w := w) (base := base) T).kp
  have G_law_times := (ok_law_times (w := w) (base := base) T).gm
  obtain ⟨fd_law_values_right, F_law_values_right, B_law_values_right⟩ := (ok_law_values_right (w := w) (base := base) T).ex
  have K_law_values_right := (ok_law_values_right (w := w) (base := base) T).kp
  have G_law_values_right := (ok_law_values_right (w := w) (base := base) T).gm
  obtain ⟨fd_law_parted, F_law_parted, B_law_parted⟩ := (ok_law_parted (w := w) (base := base) T).ex
  have K_law_parted := (ok_law_parted (w := w) (base := base) T).kp
  have G_law_parted := (ok_law_parted (w := w) (base := base) T).gm
  obtain ⟨fd_law_crossing_set, F_law_crossing_set, B_law_crossing_set⟩ := (ok_law_crossing_set (w := w) (base := base) T).ex
  have K_law_crossing_set := (ok_law_crossing_set (w := w) (base := base) T).kp
  have G_law_crossing_set := (ok_law_crossing_set (w := w) (base := base) T).gm
  obtain ⟨fd_law_cost, F_law_cost, B_law_cost⟩ := (ok_law_cost (w := w) (base := base) T).ex
  have K_law_cost := (ok_law_cost (w := w) (base := base) T).kp
  have G_law_cost := (ok_law_cost (w := w) (base := base) T).gm
  obtain ⟨fd_law_integer, F_law_integer, B_law_integer⟩ := (ok_law_integer (w := w) (base := base) T).ex
  have K_law_integer := (ok_law_integer (w := w) (base := base) T).kp
  have G_law_integer := (ok_law_integer (w := w) (base := base) T).gm
  obtain ⟨fd_list_value, F_list_value, B_list_value⟩ := (ok_list_value (w := w) (base := base) T).ex
  have K_list_value := (ok_list_value (w := w) (base := base) T).kp
  have G_list_value := (ok_list_value (w := w) (base := base) T).gm
  have nd := sc_law.nd
  refine fn_okBh (nb := 4) F rfl sc_law (by decide) (fun cdv A outer s H E hr => ⟨_, ps_set nd rfl (.inl rfl) (show JE (Cf pw w K mg base ["script", "bag", "counts", "shape", "rows", "works", "places", "valves", "walks", "part", "path", "more", "least", "many", "pairs", "k", "chosen", "cost", "due", "row", "one"] "law" (defScope s_law) (He.fAd K ("law", none)) cdv A outer s H E) (Cc rs0 H H E) _ (.val rpQ [] :: List.replicate 20 .no) _ _ _ from (e_bh4 (a_cons (e_sl sl_L (e_ct list_Q T.f_list (a_cons (e_var 0 rfl) a_nil)) o_none (o_some e_int)) (a_cons e_int (a_cons e_int (a_cons e_int (a_cons e_int a_nil))))))).pe, fun ns => (e_bh4 (a_cons (e_sl sl_L (e_ct list_Q T.f_list (a_cons (e_var 0 rfl) a_nil)) o_none (o_some e_int)) (a_cons e_int (a_cons e_int (a_cons e_int (a_cons e_int a_nil))))))⟩) (fun cdv A outer s H E hr => ⟨_, fun p H1 => JB.conv (b_set 2 nd (e_list (iα := rpI) (a_cons (e_op add_I e_int (e_callR rfl F_law_take (hr.mono (by decide)) G_law_take K_law_take B_law_take (takes_of rfl rfl rfl rfl) (a_rf 1 rfl (a_cons e_int a_nil)))) (a_cons (e_op add_I e_int (e_callR rfl F_law_take (hr.mono (by decide)) G_law_take K_law_take B_law_take (takes_of rfl rfl rfl rfl) (a_rf 1 rfl (a_cons e_int a_nil)))) a_nil)) (.cons (.cons .nil)))
 (fun counts_1 => (b_ifJ (mid := fun s2 : (List Int) => [.no, .rf p, .val (rpL (i := rpI)) s2, .no, .no, .no, .no, .no, .no, .no, .no, .no, .no, .no, .no, .no, .no, .no, .no, .no, .no]) (t_cmp eq_V (e_callR rfl F_law_take (hr.mono (by decide)) G_law_take K_law_take B_law_take (takes_of rfl rfl rfl rfl) (a_rf 1 rfl (a_cons e_int a_nil))) e_int (nomark _))
 (b_set 2 nd (e_list (iα := rpI) (a_cons (e_op sub_I e_int (e_callR rfl F_law_take (hr.mono (by decide)) G_law_take K_law_take B_law_take (takes_of rfl rfl rfl rfl) (a_rf 1 rfl (a_cons e_int a_nil)))) (a_cons (e_op sub_I e_int (e_callR rfl F_law_take (hr.mono (by decide)) G_law_take K_law_take B_law_take (takes_of rfl rfl rfl rfl) (a_rf 1 rfl (a_cons e_int a_nil)))) a_nil)) (.cons (.cons .nil)))
 (fun counts_3 => (b_nil counts_3 (.cons (.refl _) (.cons (.refl _) (.cons (.refl _) (.cons (.refl _) (.cons (.refl _) (.cons (.refl _) (.cons (.refl _) (.cons (.refl _) (.cons (.refl _) (.cons (.refl _) (.cons (.refl _) (.cons (.refl _) (.cons (.refl _) (.cons (.refl _) (.cons (.refl _) (.cons (.refl _) (.cons (.refl _) (.cons (.refl _) (.cons (.refl _) (.cons (.refl _) (.cons (.refl _) .nil))))))))))))))))))))))))
 (b_nil counts_1 (.cons (.refl _) (.cons (.refl _) (.cons (.refl _) (.cons (.refl _) (.cons (.refl _) (.cons (.refl _) (.cons (.refl _) (.cons (.refl _) (.cons (.refl _) (.cons (.refl _) (.cons (.refl _) (.cons (.refl _) (.cons (.refl _) (.cons (.refl _) (.cons (.refl _) (.cons (.refl _) (.cons (.refl _) (.cons (.refl _) (.cons (.refl _) (.cons (.refl _) (.cons (.refl _) .nil))))))))))))))))))))))
 (fun s2 => (b_set 2 nd (e_op add_L (e_var 2 rfl) (e_list (iα := rpI) (a_cons (e_callR rfl F_law_take (hr.mono (by decide)) G_law_take K_law_take B_law_take (takes_of rfl rfl rfl rfl) (a_rf 1 rfl (a_cons e_int a_nil))) (a_cons (e_callR rfl F_law_take (hr.mono (by decide)) G_law_take K_law_take B_law_take (takes_of rfl rfl rfl rfl) (a_rf 1 rfl (a_cons e_int a_nil))) (a_cons (e_callR rfl F_law_take (hr.mono (by decide)) G_law_take K_law_take B_law_take (takes_of rfl rfl rfl rfl) (a_rf 1 rfl (a_cons e_int a_nil))) a_nil))) (.cons (.cons (.cons .nil)))))
 (fun counts_4 => (b_set 3 nd (e_list (iα := rpI) (a_cons e_int (a_cons (e_ix ix_L (e_list (iα := rpI) (a_cons e_int (a_cons e_int (a_cons e_int (a_cons e_int (a_cons e_int a_nil))))) (.cons (.cons (.cons (.cons (.cons .nil)))))) (e_callR rfl F_law_take (hr.mono (by decide)) G_law_take K_law_take B_law_take (takes_of rfl rfl rfl rfl) (a_rf 1 rfl (a_cons e_int a_nil)))) (a_cons (e_ix ix_L (e_list (iα := rpI) (a_cons e_int (a_cons e_int (a_cons e_int (a_cons e_int a_nil)))) (.cons (.cons (.cons (.cons .nil))))) (e_callR rfl F_law_take (hr.mono (by decide)) G_law_take K_law_take B_law_take (takes_of rfl rfl rfl rfl) (a_rf 1 rfl (a_cons e_int a_nil)))) (a_cons (e_callR rfl F_law_take (hr.mono (by decide)) G_law_take K_law_take B_law_take (takes_of rfl rfl rfl rfl) (a_rf 1 rfl (a_cons e_int a_nil))) a_nil)))) (.cons (.cons (.cons (.cons .nil)))))
 (fun shape_5 => (b_set 4 nd (e_callR rfl F_law_rows (hr.mono (by decide)) G_law_rows K_law_rows B_law_rows (takes_of rfl rfl rfl rfl) (a_rf 1 rfl (a_cons (e_var 2 rfl) (a_cons (e_var 3 rfl) a_nil))))
 (fun rows_6 => (b_set 5 nd (e_make T.mk_Works F_Works (hr.mono (by decide)) T.g_Works B_Works (takes_of rfl rfl rfl rfl) (a_cons (e_ct list_L T.f_list (a_cons (e_var 4 rfl) a_nil)) a_nil))
 (fun works_7 => (b_set 6 nd (e_call F_law_names (hr.mono (by decide)) G_law_names K_law_names B_law_names (takes_of rfl rfl rfl rfl) (a_cons (e_var 4 rfl) (a_cons (e_tupT (a_cons e_str (a_cons e_str (a_cons e_str a_nil))) (.cons (.cons (.cons .nil)))) a_nil)))
 (fun places_8 => (b_set 7 nd (e_call F_law_names (hr.mono (by decide)) G_law_names K_law_names B_law_names (takes_of rfl rfl rfl rfl) (a_cons (e_var 4 rfl) (a_cons (e_tupT (a_cons e_str a_nil) (.cons .nil)) a_nil)))
 (fun valves_9 => (b_set 8 nd (e_callR rfl F_law_walks (hr.mono (by decide)) G_law_walks K_law_walks B_law_walks (takes_of rfl rfl rfl rfl) (a_rf 1 rfl (a_cons (e_var 4 rfl) a_nil)))
 (fun walks_10 => (b_set 9 nd (e_tupT a_nil .nil)
 (fun part_11 => (b_for (lpS := fun s12 : (Tu Str) => [.no, .rf p, .val (rpL (i := rpI)) counts_4, .val (rpL (i := rpI)) shape_5, .val (rpL (i := rpRow)) rows_6, .val rpWk works_7, .val (rpL (i := rpS)) places_8, .val (rpL (i := rpS)) valves_9, .val (rpL (i := (rpT (i := rpS)))) walks_10, .val (rpT (i := rpS)) s12, .no, .no, .no, .no, .no, .no, .no, .no, .no, .no, .no]) part_11 (.cons (.refl _) (.cons (.refl _) (.cons (.refl _) (.cons (.refl _) (.cons (.refl _) (.cons (.refl _) (.cons (.refl _) (.cons (.refl _) (.cons (.refl _) (.cons (.refl _) (.cons (.refl _) (.cons (.refl _) (.cons (.refl _) (.cons (.refl _) (.cons (.refl _) (.cons (.refl _) (.cons (.refl _) (.cons (.refl _) (.cons (.refl _) (.cons (.refl _) (.cons (.refl _) .nil))))))))))))))))))))) (passes_of rfl) rfl (i_lst (e_var 8 rfl)) (g_name 10 nd)
 (fun x13 s12 => (b_ifE (t_cmp nin_T (e_ix ix_T (e_var 10 rfl) (e_un neg_I e_int)) (e_var 9 rfl) rfl)
 (b_set 9 nd (e_op add_T (e_var 9 rfl) (e_tupT (a_cons (e_ix ix_T (e_var 10 rfl) (e_un neg_I e_int)) a_nil) (.cons .nil)))
 (fun part_14 => (b_nil part_14 (.cons (.refl _) (.cons (.refl _) (.cons (.refl _) (.cons (.refl _) (.cons (.refl _) (.cons (.refl _) (.cons (.refl _) (.cons (.refl _) (.cons (.refl _) (.cons (.refl _) (.cons (.no _) (.cons (.refl _) (.cons (.refl _) (.cons (.refl _) (.cons (.refl _) (.cons (.refl _) (.cons (.refl _) (.cons (.refl _) (.cons (.refl _) (.cons (.refl _) (.cons (.refl _) .nil))))))))))))))))))))))))
 (b_nil s12 (.cons (.refl _) (.cons (.refl _) (.cons (.refl _) (.cons (.refl _) (.cons (.refl _) (.cons (.refl _) (.cons (.refl _) (.cons (.refl _) (.cons (.refl _) (.cons (.refl _) (.cons (.no _) (.cons (.refl _) (.cons (.refl _) (.cons (.refl _) (.cons (.refl _) (.cons (.refl _) (.cons (.refl _) (.cons (.refl _) (.cons (.refl _) (.cons (.refl _) (.cons (.refl _) .nil))))))))))))))))))))))))
 (fun s12 => (b_set 11 nd (e_ix ix_L (e_var 6 rfl) (e_callR rfl F_law_take (hr.mono (by decide)) G_law_take K_law_take B_law_take (takes_of rfl rfl rfl rfl) (a_rf 1 rfl (a_cons (e_cb len_L T.f_len (a_cons (e_var 6 rfl) a_nil)) a_nil))))
 (fun more_15 => (b_ifJ (mid := fun s16 : (Tu Str) => [.no, .rf p, .val (rpL (i := rpI)) counts_4, .val (rpL (i := rpI)) shape_5, .val (rpL (i := rpRow)) rows_6, .val rpWk works_7, .val (rpL (i := rpS)) places_8, .val (rpL (i := rpS)) valves_9, .val (rpL (i := (rpT (i := rpS)))) walks_10, .val (rpT (i := rpS)) s16, .no, .val rpS more_15, .no, .no, .no, .no, .no, .no, .no, .no, .no]) (JT.cut (t_pw (tw_or (t_cmp eq_V (e_cb len_T T.f_len (a_cons (e_var 9 rfl) a_nil)) e_int (nomark _)) (tw_or1 (JT.cut (t_pw (tw_and (t_cmp nin_T (e_var 11 rfl) (e_var 9 rfl) rfl) (tw_and1 (t_cmp eq_V (e_callR rfl F_law_take (hr.mono (by decide)) G_law_take K_law_take B_law_take (takes_of rfl rfl rfl rfl) (a_rf 1 rfl (a_cons e_int a_nil))) e_int (nomark _))))))))))
 (b_set 9 nd (e_op add_T (e_tupT (a_cons (e_var 11 rfl) a_nil) (.cons .nil)) (e_var 9 rfl))
 (fun part_17 => (b_nil part_17 (.cons (.refl _) (.cons (.refl _) (.cons (.refl _) (.cons (.refl _) (.cons (.refl _) (.cons (.refl _) (.cons (.refl _) (.cons (.refl _) (.cons (.refl _) (.cons (.refl _) (.cons (.refl _) (.cons (.refl _) (.cons (.refl _) (.cons (.refl _) (.cons (.refl _) (.cons (.refl _) (.cons (.refl _) (.cons (.refl _) (.cons (.refl _) (.cons (.refl _) (.cons (.refl _) .nil))))))))))))))))))))))))
 (b_nil s12 (.cons (.refl _) (.cons (.refl _) (.cons (.refl _) (.cons (.refl _) (.cons (.refl _) (.cons (.refl _) (.cons (.refl _) (.cons (.refl _) (.cons (.refl _) (.cons (.refl _) (.cons (.refl _) (.cons (.refl _) (.cons (.refl _) (.cons (.refl _) (.cons (.refl _) (.cons (.refl _) (.cons (.refl _) (.cons (.refl _) (.cons (.refl _) (.cons (.refl _) (.cons (.refl _) .nil))))))))))))))))))))))
 (fun s16 => (b_set 12 nd (e_call F_law_least (hr.mono (by decide)) G_law_least K_law_least B_law_least (takes_of rfl rfl rfl rfl) (a_cons (e_var 4 rfl) (a_cons (e_var 9 rfl) (a_cons (e_var 7 rfl) a_nil))))
 (fun least_18 => (b_set 13 nd (e_op add_I e_int (e_callR rfl F_law_take (hr.mono (by decide)) G_law_take K_law_take B_law_take (takes_of rfl rfl rfl rfl) (a_rf 1 rfl (a_cons e_int a_nil))))
 (fun many_19 => (b_ifJ (mid := fun s20 : Int => [.no, .rf p, .val (rpL (i := rpI)) counts_4, .val (rpL (i := rpI)) shape_5, .val (rpL (i := rpRow)) rows_6, .val rpWk works_7, .val (rpL (i := rpS)) places_8, .val (rpL (i := rpS)) valves_9, .val (rpL (i := (rpT (i := rpS)))) walks_10, .val (rpT (i := rpS)) s16, .no, .val rpS more_15, .val rpI least_18, .val rpI s20, .no, .no, .no, .no, .no, .no, .no]) (JT.cut (t_pw (tw_and (t_cmp gt_I (e_var 12 rfl) e_int (nomark _)) (tw_and1 (t_cmp gt_I (e_callR rfl F_law_take (hr.mono (by decide)) G_law_take K_law_take B_law_take (takes_of rfl rfl rfl rfl) (a_rf 1 rfl (a_cons e_int a_nil))) e_int (nomark _))))))
 (b_set 13 nd (e_op add_I e_int (e_callR rfl F_law_take (hr.mono (by decide)) G_law_take K_law_take B_law_take (takes_of rfl rfl rfl rfl) (a_rf 1 rfl (a_cons (e_cb (min_I rfl) T.f_min (a_cons e_int (a_cons (e_var 12 rfl) a_nil))) a_nil))))
 (fun many_21 => (b_nil many_21 (.cons (.refl _) (.cons (.refl _) (.cons (.refl _) (.cons (.refl _) (.cons (.refl _) (.cons (.refl _) (.cons (.refl _) (.cons (.refl _) (.cons (.refl _) (.cons (.refl _) (.cons (.refl _) (.cons (.refl _) (.cons (.refl _) (.cons (.refl _) (.cons (.refl _) (.cons (.refl _) (.cons (.refl _) (.cons (.refl _) (.cons (.refl _) (.cons (.refl _) (.cons (.refl _) .nil))))))))))))))))))))))))
 (b_nil many_19 (.cons (.refl _) (.cons (.refl _) (.cons (.refl _) (.cons (.refl _) (.cons (.refl _) (.cons (.refl _) (.cons (.refl _) (.cons (.refl _) (.cons (.refl _) (.cons (.refl _) (.cons (.refl _) (.cons (.refl _) (.cons (.refl _) (.cons (.refl _) (.cons (.refl _) (.cons (.refl _) (.cons (.refl _) (.cons (.refl _) (.cons (.refl _) (.cons (.refl _) (.cons (.refl _) .nil))))))))))))))))))))))
 (fun s20 => (b_for (lpS := fun s22 : Unit => [.no, .rf p, .val (rpL (i := rpI)) counts_4, .val (rpL (i := rpI)) shape_5, .val (rpL (i := rpRow)) rows_6, .val rpWk works_7, .val (rpL (i := rpS)) places_8, .val (rpL (i := rpS)) valves_9, .val (rpL (i := (rpT (i := rpS)))) walks_10, .val (rpT (i := rpS)) s16, .no, .val rpS more_15, .val rpI least_18, .val rpI s20, .no, .no, .no, .no, .no, .no, .no]) () (.cons (.refl _) (.cons (.refl _) (.cons (.refl _) (.cons (.refl _) (.cons (.refl _) (.cons (.refl _) (.cons (.refl _) (.cons (.refl _) (.cons (.refl _) (.cons (.refl _) (.cons (.refl _) (.cons (.refl _) (.cons (.refl _) (.cons (.refl _) (.cons (.refl _) (.cons (.refl _) (.cons (.refl _) (.cons (.refl _) (.cons (.refl _) (.cons (.refl _) (.cons (.refl _) .nil))))))))))))))))))))) (passes_of rfl) rfl (i_lst (e_var 8 rfl)) (g_name 10 nd)
 (fun x23 s22 => (b_ifE (t_not (t_val (e_call F_law_path_right (hr.mono (by decide)) G_law_path_right K_law_path_right B_law_path_right (takes_of rfl rfl rfl rfl) (a_cons (e_var 5 rfl) (a_cons (e_var 9 rfl) (a_cons (e_var 10 rfl) (a_cons (e_cb len_L T.f_len (a_cons (e_lc rfl nd (blkOk_by (own := [("one", 20)]) (by show blkC ["script", "bag", "counts", "shape", "rows", "works", "places", "valves", "walks", "part", "path", "more", "least", "many", "pairs", "k", "chosen", "cost", "due", "row", "one"] (defScope s_law) _ _ = true; decide +kernel)) (by decide) rfl (i_tpl (e_var 10 rfl)) (fun _ _ _ _ _ => (g_name 20 nd)) (fun _ _ _ _ _ c25 => (JTs.conv (ts_one (t_cmp in_L (e_var 20 rfl) (e_var 7 rfl) rfl)) (by first | rfl | (dsimp only [Cx.blk] <;> rfl)) (by first | rfl | (dsimp only [Cx.blk] <;> rfl)))) (fun _ _ _ _ _ c25 => (e_var 20 rfl))) a_nil)) a_nil)))))))
 (b_ret e_bool)
 (b_nil () (.cons (.refl _) (.cons (.refl _) (.cons (.refl _) (.cons (.refl _) (.cons (.refl _) (.cons (.refl _) (.cons (.refl _) (.cons (.refl _) (.cons (.refl _) (.cons (.refl _) (.cons (.no _) (.cons (.refl _) (.cons (.refl _) (.cons (.refl _) (.cons (.refl _) (.cons (.refl _) (.cons (.refl _) (.cons (.refl _) (.cons (.refl _) (.cons (.refl _) (.cons (.refl _) .nil))))))))))))))))))))))))
 (fun s22 => (b_new (rp2 (i := (rpT (i := rpS))) (j := rpI)) 14 nd (b_for (lpS := fun s26 : (List ((Tu Str) × Int)) => [.no, .rf p, .val (rpL (i := rpI)) counts_4, .val (rpL (i := rpI)) shape_5, .val (rpL (i := rpRow)) rows_6, .val rpWk works_7, .val (rpL (i := rpS)) places_8, .val (rpL (i := rpS)) valves_9, .val (rpL (i := (rpT (i := rpS)))) walks_10, .val (rpT (i := rpS)) s16, .no, .val rpS more_15, .val rpI least_18, .val rpI s20, .ml (rp2 (i := (rpT (i := rpS))) (j := rpI)) s26, .no, .no, .no, .no, .no, .no]) [] (.cons (.refl _) (.cons (.refl _) (.cons (.refl _) (.cons (.refl _) (.cons (.refl _) (.cons (.refl _) (.cons (.refl _) (.cons (.refl _) (.cons (.refl _) (.cons (.refl _) (.cons (.refl _) (.cons (.refl _) (.cons (.refl _) (.cons (.refl _) (.cons (.refl _) (.cons (.refl _) (.cons (.refl _) (.cons (.refl _) (.cons (.refl _) (.cons (.refl _) (.cons (.refl _) .nil))))))))))))))))))))) (passes_of rfl) rfl (i_rng1 (by rfl) T.f_range (a_cons (e_callR rfl F_law_take (hr.mono (by decide)) G_law_take K_law_take B_law_take (takes_of rfl rfl rfl rfl) (a_rf 1 rfl (a_cons e_int a_nil))) a_nil)) (g_name 15 nd)
 (fun x27 s26 => (b_ifE (t_cmp gt_I (e_cb len_L T.f_len (a_cons (e_var 8 rfl) a_nil)) e_int (nomark _))
 (b_set 10 nd (e_ix ix_L (e_var 8 rfl) (e_callR rfl F_law_take (hr.mono (by decide)) G_law_take K_law_take B_law_take (takes_of rfl rfl rfl rfl) (a_rf 1 rfl (a_cons (e_cb len_L T.f_len (a_cons (e_var 8 rfl) a_nil)) a_nil))))
 (fun path_28 => (b_app1 14 rfl (e_tup2 (a_cons (e_var 10 rfl) (a_cons (e_callR rfl F_law_times (hr.mono (by decide)) G_law_times K_law_times B_law_times (takes_of rfl rfl rfl rfl) (a_rf 1 rfl (a_cons (e_var 4 rfl) (a_cons (e_var 10 rfl) a_nil)))) a_nil)))
 (fun m29 => (b_nil (s26 ++ [m29]) (.cons (.refl _) (.cons (.refl _) (.cons (.refl _) (.cons (.refl _) (.cons (.refl _) (.cons (.refl _) (.cons (.refl _) (.cons (.refl _) (.cons (.refl _) (.cons (.refl _) (.cons (.no _) (.cons (.refl _) (.cons (.refl _) (.cons (.refl _) (.cons (.refl _) (.cons (.no _) (.cons (.refl _) (.cons (.refl _) (.cons (.refl _) (.cons (.refl _) (.cons (.refl _) .nil))))))))))))))))))))))))))
 (b_nil s26 (.cons (.refl _) (.cons (.refl _) (.cons (.refl _) (.cons (.refl _) (.cons (.refl _) (.cons (.refl _) (.cons (.refl _) (.cons (.refl _) (.cons (.refl _) (.cons (.refl _) (.cons (.refl _) (.cons (.refl _) (.cons (.refl _) (.cons (.refl _) (.cons (.refl _) (.cons (.no _) (.cons (.refl _) (.cons (.refl _) (.cons (.refl _) (.cons (.refl _) (.cons (.refl _) .nil))))))))))))))))))))))))
 (fun s26 => (b_frz 14 rfl (b_ifJ (mid := fun s30 : Unit => [.no, .rf p, .val (rpL (i := rpI)) counts_4, .val (rpL (i := rpI)) shape_5, .val (rpL (i := rpRow)) rows_6, .val rpWk works_7, .val (rpL (i := rpS)) places_8, .val (rpL (i := rpS)) valves_9, .val (rpL (i := (rpT (i := rpS)))) walks_10, .val (rpT (i := rpS)) s16, .no, .val rpS more_15, .val rpI least_18, .val rpI s20, .val (rpL (i := (rp2 (i := (rpT (i := rpS))) (j := rpI)))) s26, .no, .no, .no, .no, .no, .no]) (t_not (t_val (e_call F_law_values_right (hr.mono (by decide)) G_law_values_right K_law_values_right B_law_values_right (takes_of rfl rfl rfl rfl) (a_cons (e_var 5 rfl) (a_cons (e_var 4 rfl) (a_cons (e_var 13 rfl) (a_cons (e_ct tuple_L T.f_tuple (a_cons (e_var 14 rfl) a_nil)) (a_cons (e_callR rfl F_law_parted (hr.mono (by decide)) G_law_parted K_law_parted B_law_parted (takes_of rfl rfl rfl rfl) (a_rf 1 rfl (a_cons (e_var 14 rfl) a_nil))) a_nil))))))))
 (b_ret e_bool)
 (b_nil () (.cons (.refl _) (.cons (.refl _) (.cons (.refl _) (.cons (.refl _) (.cons (.refl _) (.cons (.refl _) (.cons (.refl _) (.cons (.refl _) (.cons (.refl _) (.cons (.refl _) (.cons (.refl _) (.cons (.refl _) (.cons (.refl _) (.cons (.refl _) (.cons (.refl _) (.cons (.refl _) (.cons (.refl _) (.cons (.refl _) (.cons (.refl _) (.cons (.refl _) (.cons (.refl _) .nil))))))))))))))))))))))
 (fun s30 => (b_ifJ (mid := fun s31 : Unit => [.no, .rf p, .val (rpL (i := rpI)) counts_4, .val (rpL (i := rpI)) shape_5, .val (rpL (i := rpRow)) rows_6, .val rpWk works_7, .val (rpL (i := rpS)) places_8, .val (rpL (i := rpS)) valves_9, .val (rpL (i := (rpT (i := rpS)))) walks_10, .val (rpT (i := rpS)) s16, .no, .val rpS more_15, .val rpI least_18, .val rpI s20, .val (rpL (i := (rp2 (i := (rpT (i := rpS))) (j := rpI)))) s26, .no, .no, .no, .no, .no, .no]) (JT.cut (t_pw (tw_or (t_cmp lt_I (e_var 12 rfl) e_int (nomark _)) (tw_or1 (t_cmp ge_I (e_var 12 rfl) (e_var 13 rfl) (nomark _))))))
 (b_set 16 nd (e_callR rfl F_law_crossing_set (hr.mono (by decide)) G_law_crossing_set K_law_crossing_set B_law_crossing_set (takes_of rfl rfl rfl rfl) (a_rf 1 rfl (a_cons (e_var 4 rfl) (a_cons (e_var 9 rfl) (a_cons (e_var 13 rfl) (a_cons (e_var 7 rfl) a_nil))))))
 (fun chosen_32 => (b_set 17 nd (e_call F_law_cost (hr.mono (by decide)) G_law_cost K_law_cost B_law_cost (takes_of rfl rfl rfl rfl) (a_cons (e_var 5 rfl) (a_cons (e_var 16 rfl) a_nil)))
 (fun cost_33 => (b_set 18 nd (e_cb (sum_L rfl) T.f_sum (a_cons (e_lc rfl nd (blkOk_by (own := [("row", 19)]) (by show blkC ["script", "bag", "counts", "shape", "rows", "works", "places", "valves", "walks", "part", "path", "more", "least", "many", "pairs", "k", "chosen", "cost", "due", "row", "one"] (defScope s_law) _ _ = true; decide +kernel)) (by decide) rfl (i_lst (e_var 4 rfl)) (fun _ _ _ _ _ => (g_name 19 nd)) (fun _ _ _ _ _ c35 => (JTs.conv (ts_one (JT.cut (t_pw (tw_and (t_cmp eq_V (e_dn dnS (e_ix ix_T (e_up upRow (e_var 19 rfl)) e_int)) e_str (nomark _)) (tw_and1 (t_cmp in_T (e_dn dnS (e_ix ix_T (e_up upRow (e_var 19 rfl)) e_int)) (e_var 16 rfl) rfl)))))) (by first | rfl | (dsimp only [Cx.blk] <;> rfl)) (by first | rfl | (dsimp only [Cx.blk] <;> rfl)))) (fun _ _ _ _ _ c35 => (JE.conv (e_dn dnI (e_ix ix_T (e_up upRow (e_var 19 rfl)) e_int)) (by first | rfl | (dsimp only [Cx.blk] <;> rfl)) (by first | rfl | (dsimp only [Cx.blk] <;> rfl))))) a_nil))
 (fun due_34 => (b_ifE (JT.cut (t_pw (tw_or (t_not (t_val (e_call F_law_integer (hr.mono (by decide)) G_law_integer K_law_integer B_law_integer (takes_of rfl rfl rfl rfl) (a_cons (e_var 17 rfl) (a_cons (e_var 18 rfl) a_nil))))) (tw_or1 (t_cmp gt_I (e_call F_list_value (hr.mono (by decide)) G_list_value K_list_value B_list_value (takes_of rfl rfl rfl rfl) (a_cons (e_var 5 rfl) (a_cons (e_var 13 rfl) (a_cons (e_ct tuple_L T.f_tuple (a_cons (e_var 14 rfl) a_nil)) a_nil)))) (e_var 17 rfl) (nomark _))))))
 (b_ret e_bool)
 (b_nil () (.cons (.refl _) (.cons (.refl _) (.cons (.refl _) (.cons (.refl _) (.cons (.refl _) (.cons (.refl _) (.cons (.refl _) (.cons (.refl _) (.cons (.refl _) (.cons (.refl _) (.cons (.refl _) (.cons (.refl _) (.cons (.refl _) (.cons (.refl _) (.cons (.refl _) (.cons (.refl _) (.cons (.no _) (.cons (.no _) (.cons (.no _) (.cons (.refl _) (.cons (.refl _) .nil)))))))))))))))))))))))))))))
 (b_nil () (.cons (.refl _) (.cons (.refl _) (.cons (.refl _) (.cons (.refl _) (.cons (.refl _) (.cons (.refl _) (.cons (.refl _) (.cons (.refl _) (.cons (.refl _) (.cons (.refl _) (.cons (.refl _) (.cons (.refl _) (.cons (.refl _) (.cons (.refl _) (.cons (.refl _) (.cons (.refl _) (.cons (.refl _) (.cons (.refl _) (.cons (.refl _) (.cons (.refl _) (.cons (.refl _) .nil))))))))))))))))))))))
 (fun s31 => (b_ret (JE.cut (e_and (e_cb (isiw (cv := .ty "tuple") (u := .type "tuple") (b := true) tyT (.ty _) (L2.kit_ty (by decide +kernel))) T.f_isinstance (a_cons (e_fld (fl_rows T) (e_var 5 rfl)) (a_cons (e_clsB T.f_tuple) a_nil))) (e_one (e_cmp (eq_D hr.units) (e_up upRows (e_fld (fl_rows T) (e_var 5 rfl))) (e_up upRows (e_ct tuple_L T.f_tuple (a_cons (e_var 4 rfl) a_nil))) (nomark _)))))))))))))))))))))))))))))))))))))))))))))))) (by dsimp only [Cc] <;> rfl) (by first | rfl | (dsimp only [Cc] <;> rfl))⟩) (fun _ => ?_) ?_
  · exact ⟨Int.le_refl 0, trivial⟩
  dsimp only [endP, seqP]
  have hz := sz
  refine ⟨⟨by decide, by decide⟩, fun r1 r10 r11 => ⟨⟨by decide, by decide⟩, fun r2 r20 r21 => ⟨len2, ?_⟩⟩⟩
  refine ex_J (fun s => ∃ a b : Int, s = [a, b] ∧ (1 ≤ a ∧ a ≤ 16) ∧ (1 ≤ b ∧ b ≤ 24)) ⟨⟨by decide, by decide⟩, fun q q0 q1 => if_dd (fun _ => ⟨⟨by decide, by decide⟩, fun a a0 a1 => ⟨⟨by decide, by decide⟩, fun b b0 b1 => ⟨len2, nx_in ⟨16 - a, 24 - b, rfl, by omega, by omega⟩⟩⟩⟩) fun _ => nx_in ⟨1 + r1, 1 + r2, rfl, by omega, by omega⟩⟩ fun s hs => ?_
  obtain ⟨a, b, rfl, ha, hb⟩ := hs
  refine ⟨⟨by decide, by decide⟩, fun c c0 c1 => ⟨⟨by decide, by decide⟩, fun d d0 d1 => ⟨⟨by decide, by decide⟩, fun e e0 e1 => ⟨len3, len_lit (by show 2 + 3 ≤ 1000; decide), len5, ⟨by decide, by decide⟩, fun i i0 i1 => ex_at i0 i1 fun m1 _ _ => ⟨len4, ⟨by decide, by decide⟩, fun j j0 j1 => ex_at j0 j1 fun m2 hm2 _ => ⟨⟨by decide, by decide⟩, fun q q0 q1 => ⟨len4, ⟨⟨a, b, c, d, e, rfl, ha, hb, by omega, by omega, by omega⟩, ⟨m1, m2, q, rfl, ?_⟩⟩, fun rs hv hl hpk => ⟨hv, len3, len1, ⟨hv, hl⟩, fun ws hws => ⟨len0, fun _ => ?_⟩⟩⟩⟩⟩⟩⟩⟩⟩
  · simp only [List.mem_cons, List.not_mem_nil, or_false] at hm2
    rcases hm2 with rfl | rfl | rfl | rfl <;> decide
  have fw := hv.few
  have w : IsW (mkW rs) := ⟨rs, hv, rfl⟩
  have lens := hws.1
  have lpk : (nms PK rs).length ≤ 16 := by rw [cnt_nms]; omega
  have last : ∀ p ∈ ws, ∃ e, p.l.getLast? = some e ∧ e ∈ nms PK rs := fun p hp => by
    obtain ⟨a, ps, x⟩ := walk_x hv (hws.2 p hp)
    refine ⟨lastP a ps, walk_last x, x.pl _ ?_⟩
    have := walk_last x
    rw [x.e, flat_last] at this
    exact List.mem_of_getLast? this
  refine forP_ind (fun rest (s : Tu Str) => s.l.Nodup ∧ (∀ n ∈ s.l, n ∈ nms PK rs) ∧ (∀ p ∈ rest, p ∈ ws) ∧ ∀ p ∈ ws, p ∈ rest ∨ ∃ e ∈ s.l, p.l.getLast? = some e) (fun s hi => ?_) (fun p rest s next hn hi => ?_) _ _ ⟨List.nodup_nil, fun _ h => (nomatch h), fun _ h => h, fun _ h => .inl h⟩
  rotate_left
  · obtain ⟨i1, i2, i3, i4⟩ := hi
    obtain ⟨en, he1, he2⟩ := last p (i3 p List.mem_cons_self)
    have el : atI p.l (-1) = some en := by rw [atI_last]; exact he1
    have i3' : ∀ x ∈ rest, x ∈ ws := fun x hx => i3 x (List.mem_cons_of_mem _ hx)
    have hsl : s.l.length ≤ 16 := by have := nodup_len i1 i2; omega
    refine ⟨en, el, ?_⟩
    by_cases z : en ∈ s.l
    · refine if_ninT z (hn _ ⟨i1, i2, i3', fun x hx => ?_⟩)
      rcases i4 x hx with q | q
      · rcases List.mem_cons.mp q with rfl | q
        · exact .inr ⟨en, z, he1⟩
        · exact .inl q
      · exact .inr q
    · refine if_ninF z ⟨en, el, len1, by rw [List.length_singleton]; omega, hn _ ⟨?_, fun n hn => ?_, i3', fun x hx => ?_⟩⟩
      · rw [List.nodup_append]
        exact ⟨i1, by simp, fun x hx y hy e => z (by rw [← List.mem_singleton.mp hy, ← e]; exact hx)⟩
      · rcases List.mem_append.mp hn with hn | hn
        · exact i2 n hn
        · rw [List.mem_singleton.mp hn]; exact he2
      · rcases i4 x hx with q | ⟨e, q1, q2⟩
        · rcases List.mem_cons.mp q with rfl | q
          · exact .inr ⟨en, List.mem_append_right _ (List.mem_singleton.mpr rfl), he1⟩
          · exact .inl q
        · exact .inr ⟨e, List.mem_append_left _ q1, q2⟩
  obtain ⟨i1, i2, _, i4⟩ := hi
  have hsl : s.l.length ≤ 16 := by have := nodup_len i1 i2; omega
  have hpos : 0 < (nms PK rs).length := by rw [cnt_nms]; exact hpk
  refine fun _ => ⟨⟨Int.natCast_pos.mpr hpos, Int.lt_of_le_of_lt (Int.ofNat_le.mpr lpk) (by decide)⟩, fun r r0 r1 => ex_at r0 r1 fun more hmore _ => ?_⟩
  refine ex_J (fun part : Tu Str => PartOk (mkW rs) part.l ∧ ∀ p ∈ ws, ∃ e ∈ part.l, p.l.getLast? = some e) (cutJ (fun k => if k = true then ¬ more ∈ s.l else s.l ≠ []) (fun _ => if_dd (fun h0 => ?_) fun h0 => cutJ (fun k => if k = true then ¬ more ∈ s.l else s.l ≠ []) ?_ fun k hk => hk) fun k hk => ?_) fun part hpart => ?_
  · have : s.l = [] := List.eq_nil_of_length_eq_zero (by omega)
    refine if_t ?_
    rw [this]
    exact fun h => nomatch h
  · have ne : s.l ≠ [] := fun e => h0 (by rw [e]; rfl)
    by_cases z : more ∈ s.l
    · exact if_ninT z (if_f ne)
    · refine if_ninF z ⟨⟨by decide, by decide⟩, fun q _ _ => ?_⟩
      by_cases y : q = 0
      · rw [decide_eq_true y]; exact if_t z
      · rw [decide_eq_false y]; exact if_f ne
  · cases k with
    | true =>
      have z : ¬ more ∈ s.l := hk
      refine if_t ⟨len1, by rw [List.length_singleton]; omega, nx_in ⟨⟨fun e => (nomatch e), ?_, ?_, fun n hn => ?_⟩, fun p hp => ?_⟩⟩
      · show (more :: s.l).Nodup
        rw [List.nodup_cons]
        exact ⟨z, i1⟩
      · show s.l.length + 1 < 100
        omega
      · rcases List.mem_cons.mp hn with rfl | hn
        · exact hmore
        · exact i2 n hn
      · rcases i4 p hp with q | ⟨e, q1, q2⟩
        · cases q
        · exact ⟨e, List.mem_cons_of_mem _ q1, q2⟩
    | false =>
      refine if_f (nx_in ⟨⟨hk, i1, by omega, i2⟩, fun p hp => ?_⟩)
      rcases i4 p hp with q | q
      · cases q
      · exact q
  obtain ⟨hp1, hp2⟩ := hpart
  refine ⟨⟨hv, hl⟩, fun n hn => ⟨⟨by decide, by decide⟩, fun r r0 r1 => ?_⟩⟩
  refine ex_J (fun many => 1 ≤ many ∧ many ≤ 4) (cutJ (fun k => k = true → 0 < n) (if_dd (fun h => ⟨⟨by decide, by decide⟩, fun _ _ _ _ => h⟩) fun _ => fun e => nomatch e) fun k hk => ?_) fun many hm => ?_
  · cases k with
    | true =>
      have := hk rfl
      exact if_t ⟨⟨by omega, by omega⟩, fun q q0 q1 => nx_in ⟨by omega, by omega⟩⟩
    | false => exact if_f (nx_in ⟨by omega, by omega⟩)
  have pok : ∀ p ∈ ws, PathOk (mkW rs) part.l p.l := fun p hp => ⟨hws.2 p hp, hp2 p hp⟩
  refine fun _ => forAll _ (fun p hp P nx => ?_) ?_
  · intro hll
    refine ⟨hll, lcP_eq (fun m => decide (m ∈ nms ["valve"] rs)) (fun m => m) _ (fun m _ P ep q => by rw [any_mem]; exact q) (fun _ _ _ _ _ q => q) ?_⟩
    rw [List.map_id']
    exact fun _ => ⟨⟨w, hp1, pok p hp, congrArg Int.ofNat (valve_all hv (hws.2 p hp))⟩, if_nt nx⟩
  refine ⟨⟨by decide, by decide⟩, fun t t0 t1 => ⟨⟨by omega, by omega⟩, ?_⟩⟩
  refine forR_ind (fun k (s : Pairs) => s.length ≤ k ∧ ∀ p ∈ s, p.1 ∈ ws ∧ (1 ≤ p.2 ∧ p.2 ≤ 1000)) (fun s hi => ?_) (fun k s next hk hn hi => ?_) _ ⟨Nat.le_refl 0, fun _ h => nomatch h⟩
  rotate_left
  · obtain ⟨j1, j2⟩ := hi
    refine fun _ => if_dd (fun h0 _ => ⟨⟨h0, by omega⟩, fun q q0 q1 => ex_at q0 q1 fun path hpath _ => ⟨⟨hv, hl⟩, fun n n0 n1 => ⟨by omega, hn _ ⟨?_, fun p hp => ?_⟩⟩⟩⟩) fun _ => hn _ ⟨by omega, j2⟩
    · rw [List.length_append, List.length_singleton]; omega
    · rcases List.mem_append.mp hp with hp | hp
      · exact j2 p hp
      · rw [List.mem_singleton.mp hp]; exact ⟨hpath, n0, n1⟩
  obtain ⟨j1, j2⟩ := hi
  have hs6 : s.length ≤ 6 := by omega
  have walks : ∀ p ∈ s, Walk (mkW rs) p.1.l ∧ (1 ≤ p.2 ∧ p.2 ≤ 1000) := fun p hp => ⟨hws.2 _ (j2 p hp).1, (j2 p hp).2⟩
  have small : SmallP s := ⟨by omega, fun p hp => by
    obtain ⟨h1, h2, h3⟩ := walks p hp
    have := walk_few hv h1
    exact ⟨by omega, by omega, by omega⟩⟩
  refine ⟨by omega, ex_J (fun _ => True) ⟨⟨hs6, fun p hp => (j2 p hp).2⟩, fun qs hq1 hq2 hq3 => ⟨⟨hv, hl, rfl, hm, ⟨hs6, walks⟩, ⟨hq2, fun q hq => ?_⟩, hq1⟩, if_nt (nx_in trivial)⟩⟩ fun _ _ => ?_⟩
  · obtain ⟨h1, p, h2, h3⟩ := hq3 q hq
    rw [← h3]
    exact ⟨(walks p h2).1, h1⟩
  refine ex_J (fun _ => True) (cutJ (fun k => k = true → n < 0 ∨ many ≤ n) (if_dd (fun h => fun _ => .inl h) fun _ => fun e => .inr (of_decide_eq_true e)) fun k hk => ?_) fun _ _ => ?_
  · cases k with
    | false => exact if_f (nx_in trivial)
    | true =>
      have hk := hk rfl
      refine if_t ⟨⟨hv, hl, rfl, fun path hx => ?_⟩, fun cs hc => ⟨⟨w, ?_, hc.2.1⟩, fun hrl => ⟨hrl, ?_⟩⟩⟩
      · have := hn path hx
        omega
      · have := nodup_len hc.1 hc.2.1
        have := few_valves hv
        omega
      · refine lcP_eq (fun r : Row => decide (r.kind = ("valve" : Str)) && decide (r.name ∈ cs)) Row.cost _ (fun r hr P ep q => cutJ (fun k => k = (decide (r.kind = ("valve" : Str)) && decide (r.name ∈ cs))) ?_ fun k hk => hk ▸ q) (fun r hr hk P ep q => ?_) ?_
        · refine ⟨_, enc0 r, _, rfl, if_dd (fun h => ⟨_, enc1 r, _, rfl, ?_⟩) fun h => ?_⟩
          · rw [any_mem, decide_eq_true h]
            rfl
          · rw [decide_eq_false h]
            rfl
        · rw [Bool.and_eq_true] at hk
          cases r with
          | valve n a b p c => exact ⟨_, rfl, c, rfl, q⟩
          | _ => exact absurd (of_decide_eq_true hk.1) (by simp only [Row.kind]; decide)
        · have de := due_eq hv cs
          have ge := dual hv (many := many) (ps := s) (cs := cs) hc.2.1 fun p hp => ⟨(walks p hp).1, (walks p hp).2.1, hc.2.2 p.1.l (pok _ (j2 p hp).1)⟩
          refine cutJ (fun k => k = false) (if_nT de.symm ⟨⟨w, hm, small⟩, ?_⟩) fun k hk => ?_
          · exact decide_eq_false (by omega)
          · rw [hk]
            exact if_f (nx_in trivial)
  refine cutJ (fun k => k = true) (if_t ⟨?_, ?_, ?_⟩) fun k hk => hk
  · intro m hm i hi
    obtain ⟨r, hr, rfl⟩ := List.mem_map.mp hm
    exact row_ok hv hr i hi
  · intro m hm i hi
    obtain ⟨r, hr, rfl⟩ := List.mem_map.mp hm
    exact row_ok hv hr i hi
  · exact decide_eq_true rfl
end
end K17

set_option Elab.async false
set_option linter.all false
set_option maxRecDepth 100000
set_option maxHeartbeats 0
set_option autoImplicit false
namespace Ty
open PySem PySem.Spec PyProof.Rows L2
/-- a law's end: the promise may speak of the world -/
theorem walk_ofW {l : PySem.W.OpenLaw} {n k : Nat} {q : Program} {loose : List Str} {XP : (Str → Option Value) → Heap → Prop} {YP : World → Heap → Prop} {d : DefRec} {x : Str}
    (hn : l.most = some n) (hn2 : n ≤ sizeLine) (hdf : d.params.defaults = []) (hr : Room k callerA)
    (F : ∀ (w : World) (mg : Str → Option Value) (fa : Addr) (h : Heap), YP w h → h.Ns mainGlobals mg → mg d.name = some (.ref fa) →
      ∃ (K : PySem.W.Frag) (fd : FuncData), K.In h ∧ (∀ (s : Shared) (u : Value), BindsTo s fd ⟨[u], []⟩ [(x, u)]) ∧ ∀ base : Heap, FnOk l.prog w K mg base (L2.CX l.prog w) k fa fd [x] (spL K n)) :
    PySem.W.WalkO q loose XP YP l.row.toRowW d [] (fun f vs => PySem.call f vs) := by
  refine Att.attach_call hn hdf fun w s₀ s₁ mg mb fa o pm cd doc a vs ns G Y ho hd hcd hmg hobj hints hlen hg => ?_
  obtain ⟨K, fd, KX, hb, hF⟩ := F w mg fa _ Y G.T.g hmg
  exact law_call KX G.T.g G.T.b G.T.builtins G.T.nolimit hg hobj hints (Nat.le_trans hlen hn2) hr (fun base _ _ => hF base) hb (fun H hO hS => ⟨a, ns, rfl, hS, hlen, hO, fun _ => rfl⟩) fun H e s' h => by
    obtain ⟨_, _, _, _, _, _, _, _, _, _, _, _, z⟩ := h
    exact z
end Ty
namespace K17
open PySem PySem.Spec PyProof.Rows L2 Ty
theorem facts {w : World} {K : Fg} {h : Heap} {mg : Str → Option Value} {f : Addr} (X : K.In h) (G : h.Ns mainGlobals mg) (hfa : mg ("law" : Str) = some (.ref f)) (c : SaysST fa fn fs pw.main.file exB ts w K) :
    ∃ fd : FuncData, (∀ (s : Shared) (v : Value), BindsTo s fd ⟨[v], []⟩ [("script", v)]) ∧ ∀ base : Heap, FnOk pw w K mg base (L2.CX pw w) 9 f fd ["script"] (spL K 63) := by
  have T : Txt w K mg := Txt.of X G c
  obtain ⟨fd, F, ok⟩ := ok_law (w := w) T
  have e := hfa.symm.trans T.g_law
  cases e
  have b := FunD.bindsA (ps := ["script"]) F fun _ _ _ _ _ _ us hl => match us, hl with | [_], _ => rfl
  exact ⟨fd, fun s v => b s [v] rfl, ok⟩
end K17
open PySem PySem.W PySem.Calls PyProof.Rows
theorem PySem.Challenge.cw_valvewise_k17_weak_side_holds : PySem.Challenge.rw_valvewise_k17_weak_side.Holds := by
  w_on; o_law
  refine HandSHeadRun.head_any (r := OpenLaw.row PySem.Challenge.rw_valvewise_k17_weak_side) (q := view (OpenLaw.row PySem.Challenge.rw_valvewise_k17_weak_side).prog [76]) (H := K17.hk) (ob := K17.ob) (M := 16000) (loose := K17.loose) (d := HandSHeadRun.topDef (OpenLaw.row PySem.Challenge.rw_valvewise_k17_weak_side).prog 76) (kwd := []) K17.ob_eq
    (by kernel_rfl) (fun s => by kernel_rfl) K17.run (by kernel_rfl) (by kernel_rfl) (by kernel_rfl) (by rfl) (by first | assumption | decide +kernel) (by decide +kernel) ⟨rfl, rfl, rfl, rfl, rfl, by decide +kernel⟩ ?hw ?hc
  case hw => w_witness2
  case hc =>
    refine Ty.walk_ofW (l := PySem.Challenge.rw_valvewise_k17_weak_side) (n := 63) (k := 9) (x := "script") rfl (by decide) (by kernel_rfl) ⟨rfl, by decide, by decide⟩ ?F
    intro w mg fa h Y G hmg0
    obtain ⟨K, KX, c⟩ := Y
    have hmg : mg ("law" : PySem.Str) = some (.ref fa) := by
      have e : (HandSHeadRun.topDef (OpenLaw.row PySem.Challenge.rw_valvewise_k17_weak_side).prog 76).name = ("law" : PySem.Str) := by kernel_rfl
      rw [← e]
      exact hmg0
    obtain ⟨fd, hb, hF⟩ := K17.facts (w := w) KX G hmg c
    exact ⟨K, fd, KX, hb, hF⟩

