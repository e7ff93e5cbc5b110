import PyProof.Rows.All
import Wide.All
import OpenK.AllK
import Wide.FinOn
import HandS.ForMost
import HandS.ForExc
import HandS.Defaults
import HandS.Walk
import HandS.CallSlots
import HandS.HeadHook2
import HandS.More
import HandS.IsInst
import HandS.TupAny
import PyProof.ListMulRight
import KE.KOpsOwn
import HandS.FStr
import HandS.Small
import HandS.Sort
import PyProof.ListRange
import PyProof.TwoTypes
import HandS.Dict
import HandS.ForDict
import KE.DataMinMax
import HandS.Head0
import HandS.Head1
import HandS.Head2
import HandS.HeadHook4
import HandS.HeadEnd
import PySem.Challenge.RW_valvewise_k06_spans
import KE.KStateDown
import HandS.Ends
set_option Elab.async false
set_option linter.all false
set_option maxRecDepth 100000
set_option maxHeartbeats 4000000
set_option autoImplicit false
/-! Ty, part A: worlds, representations, judgements of expressions and statements by predicate transformers -/
namespace Ty
open PySem PySem.Spec L2

abbrev Fg := PySem.W.Frag
/-- G is a part of H -/
def Ex (G H : Hp) : Prop := ∀ a o, G a = some o → H a = some o
theorem Ex.refl (G : Hp) : Ex G G := fun _ _ h => h
theorem Ex.trans {G H J : Hp} (a : Ex G H) (b : Ex H J) : Ex G J := fun x o h => b x o (a x o h)
theorem Ex.new {H : Hp} {p : Addr} {o : HO} (h : H p = none) : Ex H (upd H p o) := fun a u e => by
  rw [upd_ne (ne_of_none e h)]
  exact e
theorem Ex.rd {G H : Hp} {a : Addr} {u : HO} (e : Ex G H) (h : Rd G a u) : Rd H a u := by
  rcases h with h | ⟨o, h⟩
  · exact Or.inl (e a _ h)
  · exact Or.inr ⟨o, e a _ h⟩
theorem Ex.sl {K : Fg} {G H : Hp} {a : Addr} {xs : List V} (e : Ex G H) (h : SqL K G a xs) : SqL K H a xs := by
  rcases h with h | h
  · exact Or.inl (e.rd h)
  · exact Or.inr h
theorem Ex.st {K : Fg} {G H : Hp} {a : Addr} {xs : List V} (e : Ex G H) (h : SqT K G a xs) : SqT K H a xs := by
  rcases h with h | h
  · exact Or.inl (e.rd h)
  · exact Or.inr h

/-! ### what a value stands for -/
class Rp (α : Type) where
  rp : Fg → Hp → V → α → Prop
  mono : ∀ {K : Fg} {G G' : Hp} {v : V} {m : α}, Ex G G' → rp K G v m → rp K G' v m
abbrev rp {α : Type} [i : Rp α] (K : Fg) (G : Hp) (v : V) (m : α) : Prop := i.rp K G v m

instance rpI : Rp Int := ⟨fun _ _ v m => v = .int m, fun _ h => h⟩
instance rpB : Rp Bool := ⟨fun _ _ v m => v = .bl m, fun _ h => h⟩
instance rpS : Rp Str := ⟨fun _ _ v m => v = .str m, fun _ h => h⟩
instance rpN : Rp Unit := ⟨fun _ _ v _ => v = .non, fun _ h => h⟩
abbrev RpAll {α : Type} (i : Rp α) (K : Fg) (G : Hp) : List V → List α → Prop := Paired fun v m => i.rp K G v m
theorem RpAll.mono {α : Type} {i : Rp α} {K : Fg} {G G' : Hp} {vs : List V} {ms : List α} (e : Ex G G') (h : RpAll i K G vs ms) : RpAll i K G' vs ms := Paired.mapP h fun _ _ q => i.mono e q
theorem RpAll.get {α : Type} {i : Rp α} {K : Fg} {G : Hp} : ∀ {vs : List V} {ms : List α} {j : Nat} {m : α}, RpAll i K G vs ms → ms[j]? = some m → ∃ v, vs[j]? = some v ∧ i.rp K G v m
  | _, _, j, m, .nil, e => by simp at e
  | _, _, 0, m, .cons h _, e => by
    simp at e
    subst e
    exact ⟨_, rfl, h⟩
  | _, _, j + 1, m, .cons _ t, e => by
    obtain ⟨v, h1, h2⟩ := RpAll.get (j := j) t (by simpa using e)
    exact ⟨v, by simpa using h1, h2⟩
theorem RpAll.getV {α : Type} {i : Rp α} {K : Fg} {G : Hp} {vs : List V} {ms : List α} {j : Nat} {v : V} (h : RpAll i K G vs ms) (e : vs[j]? = some v) : ∃ m, ms[j]? = some m ∧ i.rp K G v m := by
  have hl := h.length
  have hj : j < vs.length := (List.getElem?_eq_some_iff.mp e).1
  have e2 : ms[j]? = some (ms[j]'(by omega)) := List.getElem?_eq_getElem _
  obtain ⟨v', h1, h2⟩ := h.get e2
  rw [e] at h1
  cases h1
  exact ⟨_, e2, h2⟩
/-- a Python list -/
instance rpL {α : Type} [i : Rp α] : Rp (List α) := ⟨fun K G v ms => ∃ a vs, v = .ref a ∧ G a = some (.lst vs) ∧ RpAll i K G vs ms ∧ vs.length ≤ sizeLine, fun e h => by
  obtain ⟨a, vs, h1, h2, h3, h4⟩ := h
  exact ⟨a, vs, h1, e _ _ h2, h3.mono e, h4⟩⟩
/-- a Python tuple of any length -/
structure Tu (α : Type) where
  l : List α
instance rpT {α : Type} [i : Rp α] : Rp (Tu α) := ⟨fun K G v ms => ∃ a vs, v = .ref a ∧ SqT K G a vs ∧ RpAll i K G vs ms.l ∧ vs.length ≤ sizeLine, fun e h => by
  obtain ⟨a, vs, h1, h2, h3, h4⟩ := h
  exact ⟨a, vs, h1, e.st h2, h3.mono e, h4⟩⟩
/-- a pair -/
instance rp2 {α β : Type} [i : Rp α] [j : Rp β] : Rp (α × β) := ⟨fun K G v m => ∃ a x y, v = .ref a ∧ SqT K G a [x, y] ∧ i.rp K G x m.1 ∧ j.rp K G y m.2, fun e h => by
  obtain ⟨a, x, y, h1, h2, h3, h4⟩ := h
  exact ⟨a, x, y, h1, e.st h2, i.mono e h3, j.mono e h4⟩⟩
/-- what may be read of a list that the program's text wrote is told by SqL -/
structure LiK (α : Type) where
  l : List α

/-! ### exceptions -/
structure Exn where
  cls : Str
  fs : List (Str × PyData)
def XRep (K : Fg) (G H : Hp) (cls : Value) (d : Option Addr) (e : Exn) : Prop :=
  cls = .ref (He.ga K e.cls) ∧ ∃ (a : Addr) (fs : List (Str × V)), d = some a ∧ H a = some (.xd fs) ∧ ∀ f x, e.fs.lookup f = some x → ∃ v, fs.lookup f = some v ∧ Dp K G v x

/-! ### worlds: G what is known for good, H the heap; a resource: the objects that may change -/
structure Rs where
  S : Hp → Addr → Prop
  I : Hp → Prop
  loc : ∀ {H H' : Hp}, I H → (∀ a, S H a → H' a = H a) → I H' ∧ ∀ a, S H' a ↔ S H a
  trk : ∀ {H : Hp} {a : Addr}, I H → S H a → H a ≠ none
def rs0 : Rs := ⟨fun _ _ => False, fun _ => True, fun _ _ => ⟨trivial, fun _ => Iff.rfl⟩, fun _ h => h.elim⟩
structure Wd (rs : Rs) (G H : Hp) : Prop where
  s : Ex G H
  i : rs.I H
  n : ∀ a, rs.S H a → G a = none
structure Gr (rs : Rs) (G H G' H' : Hp) : Prop where
  g : Ex G G'
  h : ∀ a o, ¬ rs.S H a → H a = some o → H' a = some o
  t : ∀ a, H a ≠ none → H' a ≠ none
  n : ∀ a, H a ≠ none → G a = none → G' a = none
  f : ∀ a, rs.S H' a → rs.S H a ∨ H a = none
  w : Wd rs G' H'
theorem Gr.refl {rs : Rs} {G H : Hp} (w : Wd rs G H) : Gr rs G H G H := ⟨Ex.refl _, fun _ _ _ h => h, fun _ h => h, fun _ _ h => h, fun _ h => .inl h, w⟩
theorem Gr.trans {rs : Rs} {G H G1 H1 G2 H2 : Hp} (a : Gr rs G H G1 H1) (b : Gr rs G1 H1 G2 H2) : Gr rs G H G2 H2 := by
  have notS : ∀ x o, ¬ rs.S H x → H x = some o → ¬ rs.S H1 x := fun x o hs hx q => by
    rcases a.f x q with z | z
    · exact hs z
    · rw [z] at hx
      cases hx
  refine ⟨a.g.trans b.g, fun x o hs hx => b.h x o (notS x o hs hx) (a.h x o hs hx), fun x hx => b.t x (a.t x hx), fun x hx hg => b.n x (a.t x hx) (a.n x hx hg), fun x hx => ?_, b.w⟩
  rcases b.f x hx with z | z
  · exact a.f x z
  · by_cases q : H x = none
    · exact .inr q
    · exact absurd z (a.t x q)
theorem some_ne {H : Hp} {a : Addr} {o : HO} (h : H a = some o) : H a ≠ none := by rw [h]; exact fun q => by cases q
/-- pure growth -/
theorem gr_up {rs : Rs} {G H G' H' : Hp} (w : Wd rs G H) (g : Ex G G') (h : Ex H H') (s : Ex G' H') (n : ∀ a, H a ≠ none → G a = none → G' a = none) : Gr rs G H G' H' := by
  have hs : ∀ a, rs.S H a → H' a = H a := fun a ha => by
    cases e : H a with
    | none => exact absurd e (rs.trk w.i ha)
    | some o => exact h a o e
  obtain ⟨i', s'⟩ := rs.loc w.i hs
  refine ⟨g, fun a o _ e => h a o e, fun a e => ?_, n, fun a ha => .inl ((s' a).mp ha), ⟨s, i', fun a ha => ?_⟩⟩
  · cases q : H a with
    | none => exact absurd q e
    | some o => exact some_ne (h a o q)
  · exact n a (rs.trk w.i ((s' a).mp ha)) (w.n a ((s' a).mp ha))
/-- a new object, known for good -/
theorem gr_new {rs : Rs} {G H : Hp} {p : Addr} {o : HO} (w : Wd rs G H) (hp : H p = none) : Gr rs G H (upd G p o) (upd H p o) := by
  have gp : G p = none := by
    cases e : G p with
    | none => rfl
    | some u =>
      have := w.s p u e
      rw [hp] at this
      cases this
  refine gr_up w (Ex.new gp) (Ex.new hp) (fun a u e => ?_) fun a ha hg => ?_
  · by_cases q : a = p
    · subst q
      rw [upd_same] at e ⊢
      exact e
    · rw [upd_ne q] at e ⊢
      exact w.s a u e
  · have q : a ≠ p := fun z => ha (z ▸ hp)
    rw [upd_ne q]
    exact hg
/-- a new object that may change yet -/
theorem gr_newH {rs : Rs} {G H : Hp} {p : Addr} {o : HO} (w : Wd rs G H) (hp : H p = none) : Gr rs G H G (upd H p o) :=
  gr_up w (Ex.refl _) (Ex.new hp) (w.s.trans (Ex.new hp)) fun _ _ h => h
/-- an own object is changed -/
theorem gr_mut {rs : Rs} {G0 H0 G H : Hp} {l : Addr} {o : HO} (g : Gr rs G0 H0 G H) (h0 : H0 l = none) (hg : G l = none) (hs : ¬ rs.S H l) (hl : H l ≠ none) : Gr rs G0 H0 G (upd H l o) := by
  have e : ∀ a, rs.S H a → upd H l o a = H a := fun a ha => upd_ne fun z => hs (z ▸ ha)
  obtain ⟨i', s'⟩ := rs.loc g.w.i e
  refine ⟨g.g, fun a u ha q => ?_, fun a q => ?_, g.n, fun a ha => g.f a ((s' a).mp ha), ⟨fun a u q => ?_, i', fun a ha => g.w.n a ((s' a).mp ha)⟩⟩
  · rw [upd_ne (ne_of_none q h0)]
    exact g.h a u ha q
  · by_cases z : a = l
    · rw [z, upd_same]
      exact fun q => by cases q
    · rw [upd_ne z]
      exact g.t a q
  · rw [upd_ne (ne_of_none q hg)]
    exact g.w.s a u q
/-- from no resource to any -/
theorem Gr.lift {rs : Rs} {G H G' H' : Hp} (w : Wd rs G H) (g : Gr rs0 G H G' H') : Gr rs G H G' H' :=
  gr_up w g.g (fun a o e => g.h a o (fun z => z) e) g.w.s g.n
theorem Wd.to0 {rs : Rs} {G H : Hp} (w : Wd rs G H) : Wd rs0 G H := ⟨w.s, trivial, fun _ h => h.elim⟩

/-! ### slots -/
inductive Sl : Type 1 where
  | no
  | val {α : Type} (i : Rp α) (m : α)
  | ml {α : Type} (i : Rp α) (xs : List α)
  | md {α : Type} (i : Rp α) (kvs : List (Key × α))
  | oi (l C : Addr) (fs : List (Str × (Fg → Hp → V → Prop)))
  | rf (a : Addr)
def Sl.own : Sl → Bool
  | .ml _ _ => true
  | .md _ _ => true
  | .oi _ _ _ => true
  | _ => false
/-- a dict's pairs -/
abbrev KvAll {α : Type} (i : Rp α) (K : Fg) (G : Hp) : List (Key × V) → List (Key × α) → Prop := Paired fun p q => p.1 = q.1 ∧ i.rp K G p.2 q.2
theorem KvAll.mono {α : Type} {i : Rp α} {K : Fg} {G G' : Hp} {vs : List (Key × V)} {ms : List (Key × α)} (e : Ex G G') (h : KvAll i K G vs ms) : KvAll i K G' vs ms := Paired.mapP h fun _ _ q => ⟨q.1, i.mono e q.2⟩
/-- an instance's fields: names in order, what is known of each -/
inductive FlAll (K : Fg) (G : Hp) : List (Str × V) → List (Str × (Fg → Hp → V → Prop)) → Prop
  | nil : FlAll K G [] []
  | cons {f : Str} {v : V} {p : Fg → Hp → V → Prop} {vs : List (Str × V)} {ps : List (Str × (Fg → Hp → V → Prop))} : (∀ G', Ex G G' → p K G' v) → FlAll K G vs ps → FlAll K G ((f, v) :: vs) ((f, p) :: ps)
theorem FlAll.mono {K : Fg} {G G' : Hp} {vs : List (Str × V)} {ps : List (Str × (Fg → Hp → V → Prop))} (e : Ex G G') (h : FlAll K G vs ps) : FlAll K G' vs ps := by
  induction h with
  | nil => exact .nil
  | cons h _ ih => exact .cons (fun G2 e2 => h G2 (e.trans e2)) ih
def SlOk (K : Fg) (rs : Rs) (H0 G H : Hp) (s : Option (Option V)) : Sl → Prop
  | .no => True
  | .val i m => ∃ v, s = some (some v) ∧ i.rp K G v m
  | .ml i xs => ∃ l vs, s = some (some (.ref l)) ∧ H l = some (.lst vs) ∧ RpAll i K G vs xs ∧ H0 l = none ∧ G l = none ∧ ¬ rs.S H l
  | .md i kvs => ∃ l vs, s = some (some (.ref l)) ∧ H l = some (.dK vs) ∧ KvAll i K G vs kvs ∧ H0 l = none ∧ G l = none ∧ ¬ rs.S H l
  | .oi l C fs => ∃ dx vs, s = some (some (.ref l)) ∧ H l = some (.ins C dx vs) ∧ FlAll K G vs fs ∧ H0 l = none ∧ G l = none ∧ ¬ rs.S H l ∧ H dx = some (.own l) ∧ H0 dx = none ∧ G dx = none ∧ ¬ rs.S H dx
  | .rf a => s = some (some (.ref a))
structure En (K : Fg) (rs : Rs) (H0 G H : Hp) (σ : L2.St) (ρ : List Sl) : Prop where
  len : σ.length = ρ.length
  ok : ∀ (i : Nat) (x : Sl), ρ[i]? = some x → SlOk K rs H0 G H σ[i]? x
  sep : ∀ (i j : Nat) (x y : Sl) (l : Addr), i ≠ j → ρ[i]? = some x → ρ[j]? = some y → x.own = true → y.own = true → σ[i]? = some (some (.ref l)) → σ[j]? = some (some (.ref l)) → False
theorem SlOk.up {K : Fg} {rs : Rs} {H0 G H G' H' : Hp} {s : Option (Option V)} {x : Sl} (g : Gr rs G H G' H') (h : SlOk K rs H0 G H s x) : SlOk K rs H0 G' H' s x := by
  cases x with
  | no => trivial
  | val i m =>
    obtain ⟨v, h1, h2⟩ := h
    exact ⟨v, h1, i.mono g.g h2⟩
  | ml i xs =>
    obtain ⟨l, vs, h1, h2, h3, h4, h5, h6⟩ := h
    refine ⟨l, vs, h1, g.h l _ h6 h2, h3.mono g.g, h4, g.n l (some_ne h2) h5, fun z => ?_⟩
    rcases g.f l z with q | q
    · exact h6 q
    · rw [q] at h2
      cases h2
  | md i kvs =>
    obtain ⟨l, vs, h1, h2, h3, h4, h5, h6⟩ := h
    refine ⟨l, vs, h1, g.h l _ h6 h2, h3.mono g.g, h4, g.n l (some_ne h2) h5, fun z => ?_⟩
    rcases g.f l z with q | q
    · exact h6 q
    · rw [q] at h2
      cases h2
  | oi l C fs =>
    obtain ⟨dx, vs, h1, h2, h3, h4, h5, h6, h7, h8, h9, h10⟩ := h
    refine ⟨dx, vs, h1, g.h l _ h6 h2, h3.mono g.g, h4, g.n l (some_ne h2) h5, fun z => ?_, g.h dx _ h10 h7, h8, g.n dx (some_ne h7) h9, fun z => ?_⟩
    · rcases g.f l z with q | q
      · exact h6 q
      · rw [q] at h2
        cases h2
    · rcases g.f dx z with q | q
      · exact h10 q
      · rw [q] at h7
        cases h7
  | rf a => exact h
theorem En.up {K : Fg} {rs : Rs} {H0 G H G' H' : Hp} {σ : L2.St} {ρ : List Sl} (g : Gr rs G H G' H') (h : En K rs H0 G H σ ρ) : En K rs H0 G' H' σ ρ :=
  ⟨h.len, fun i x e => (h.ok i x e).up g, h.sep⟩
theorem En.val {K : Fg} {rs : Rs} {H0 G H : Hp} {σ : L2.St} {ρ : List Sl} {j : Nat} {α : Type} {i : Rp α} {m : α} (h : En K rs H0 G H σ ρ) (e : ρ[j]? = some (.val i m)) : ∃ v, σ[j]? = some (some v) ∧ i.rp K G v m := h.ok j _ e
theorem get_set.{u} {α : Type u} {l : List α} {i j : Nat} {a b : α} (h : (l.set i a)[j]? = some b) : (i = j ∧ b = a ∧ i < l.length) ∨ (i ≠ j ∧ l[j]? = some b) := by
  by_cases q : i = j
  · subst q
    by_cases z : i < l.length
    · rw [List.getElem?_set_self z] at h
      exact .inl ⟨rfl, (Option.some.inj h).symm, z⟩
    · rw [List.getElem?_eq_none (by simpa using z)] at h
      cases h
  · rw [List.getElem?_set_ne q] at h
    exact .inr ⟨q, h⟩
/-- a slot is stored (not an own object) -/
theorem En.set {K : Fg} {rs : Rs} {H0 G H : Hp} {σ : L2.St} {ρ : List Sl} {j : Nat} {v : V} {x : Sl} (h : En K rs H0 G H σ ρ) (hx : SlOk K rs H0 G H (some (some v)) x) (hn : x.own = false) : En K rs H0 G H (σ.set j (some v)) (ρ.set j x) := by
  refine ⟨by simp [h.len], fun i y e => ?_, fun i k y z l ne e1 e2 o1 o2 s1 s2 => ?_⟩
  · rcases get_set e with ⟨rfl, rfl, z⟩ | ⟨q, e⟩
    · rw [List.getElem?_set_self (by rw [h.len]; exact z)]
      exact hx
    · rw [List.getElem?_set_ne q]
      exact h.ok i y e
  · rcases get_set e1 with ⟨_, rfl, _⟩ | ⟨q1, e1⟩
    · rw [hn] at o1; cases o1
    rcases get_set e2 with ⟨_, rfl, _⟩ | ⟨q2, e2⟩
    · rw [hn] at o2; cases o2
    rw [List.getElem?_set_ne q1] at s1
    rw [List.getElem?_set_ne q2] at s2
    exact h.sep i k y z l ne e1 e2 o1 o2 s1 s2
/-- less is known -/
inductive SlLe : Sl → Sl → Prop
  | refl (x : Sl) : SlLe x x
  | no (x : Sl) : SlLe x .no
inductive EnLe : List Sl → List Sl → Prop
  | nil : EnLe [] []
  | cons {x y : Sl} {r s : List Sl} : SlLe x y → EnLe r s → EnLe (x :: r) (y :: s)
theorem EnLe.len : ∀ {r s : List Sl}, EnLe r s → r.length = s.length
  | _, _, .nil => rfl
  | _, _, .cons _ t => congrArg Nat.succ t.len
theorem EnLe.get : ∀ {r s : List Sl} {i : Nat} {y : Sl}, EnLe r s → s[i]? = some y → ∃ x, r[i]? = some x ∧ SlLe x y
  | _, _, i, y, .nil, e => by simp at e
  | _, _, 0, y, .cons h _, e => by
    simp at e
    subst e
    exact ⟨_, rfl, h⟩
  | _, _, i + 1, y, .cons _ t, e => by
    obtain ⟨x, h1, h2⟩ := EnLe.get (i := i) t (by simpa using e)
    exact ⟨x, by simpa using h1, h2⟩
theorem EnLe.rfl' : ∀ (r : List Sl), EnLe r r
  | [] => .nil
  | x :: r => .cons (.refl x) (EnLe.rfl' r)
theorem En.le {K : Fg} {rs : Rs} {H0 G H : Hp} {σ : L2.St} {ρ ρ' : List Sl} (h : En K rs H0 G H σ ρ) (e : EnLe ρ ρ') : En K rs H0 G H σ ρ' := by
  refine ⟨h.len.trans e.len, fun i y q => ?_, fun i k y z l ne e1 e2 o1 o2 s1 s2 => ?_⟩
  · obtain ⟨x, h1, h2⟩ := e.get q
    cases h2 with
    | refl => exact h.ok i _ h1
    | no => trivial
  · obtain ⟨x1, h1, h2⟩ := e.get e1
    obtain ⟨x2, h3, h4⟩ := e.get e2
    cases h2 with
    | no => cases o1
    | refl => cases h4 with
      | no => cases o2
      | refl => exact h.sep i k _ _ l ne h1 h3 o1 o2 s1 s2

/-! ### the context, the judgements -/
structure Cn where
  rs : Rs
  G0 : Hp
  H0 : Hp
  wsh : Value → Option Addr → L2.St → Hp → Prop
abbrev Pt (α : Type) := (α → Prop) → (Exn → Prop) → Prop
/-- what is wanted of an exception, from a world on -/
def XOk (X : Cx) (c : Cn) (G H : Hp) (σ : L2.St) (ep : Exn → Prop) : Prop := ∀ G' H' cls d e, Gr c.rs G H G' H' → XRep X.K G' H' cls d e → ep e → c.wsh cls d σ H'
theorem XOk.up {X : Cx} {c : Cn} {G H G' H' : Hp} {σ : L2.St} {ep : Exn → Prop} (h : XOk X c G H σ ep) (g : Gr c.rs G H G' H') : XOk X c G' H' σ ep := fun G2 H2 cls d e g2 => h G2 H2 cls d e (g.trans g2)
structure JE (X : Cx) (c : Cn) (e : Expr) (ρ : List Sl) {α : Type} (i : Rp α) (t : TE) (Φ : Pt α) : Prop where
  pe : PE X e t
  sem : ∀ post ep, Φ post ep → ∀ G H σ, Wd c.rs G H → En X.K c.rs c.H0 G H σ ρ → ∀ Q : VK, (∀ G' H' v m, Gr c.rs G H G' H' → i.rp X.K G' v m → post m → Q v H') → XOk X c G H σ ep → t σ H Q
structure JT (X : Cx) (c : Cn) (e : Expr) (ρ : List Sl) (t : TT) (Φ : Pt Bool) : Prop where
  pe : PT X e t
  sem : ∀ post ep, Φ post ep → ∀ G H σ, Wd c.rs G H → En X.K c.rs c.H0 G H σ ρ → ∀ Q : Bool → Hp → Prop, (∀ G' H' m, Gr c.rs G H G' H' → post m → Q m H') → XOk X c G H σ ep → t σ H Q
/-- and, or within a test -/
structure JW (X : Cx) (c : Cn) (e : Expr) (ρ : List Sl) (t : TT) (Φ : Pt Bool) : Prop where
  pe : PW X e t
  sem : ∀ post ep, Φ post ep → ∀ G H σ, Wd c.rs G H → En X.K c.rs c.H0 G H σ ρ → ∀ Q : Bool → Hp → Prop, (∀ G' H' m, Gr c.rs G H G' H' → post m → Q m H') → XOk X c G H σ ep → t σ H Q
/-- arguments as typed data -/
inductive ArgOk (K : Fg) (G : Hp) : V → Sl → Prop
  | val {α : Type} {i : Rp α} {m : α} {v : V} : i.rp K G v m → ArgOk K G v (.val i m)
  | rf {a : Addr} : ArgOk K G (.ref a) (.rf a)
theorem ArgOk.mono {K : Fg} {G G' : Hp} {v : V} {x : Sl} (e : Ex G G') (h : ArgOk K G v x) : ArgOk K G' v x := by
  cases h with
  | val h => exact .val (Rp.mono e h)
  | rf => exact .rf
inductive ArgsOk (K : Fg) (G : Hp) : List V → List Sl → Prop
  | nil : ArgsOk K G [] []
  | cons {v : V} {x : Sl} {vs : List V} {xs : List Sl} : ArgOk K G v x → ArgsOk K G vs xs → ArgsOk K G (v :: vs) (x :: xs)
theorem ArgsOk.mono {K : Fg} {G G' : Hp} {vs : List V} {xs : List Sl} (e : Ex G G') (h : ArgsOk K G vs xs) : ArgsOk K G' vs xs := by
  induction h with
  | nil => exact .nil
  | cons h _ ih => exact .cons (h.mono e) ih
theorem ArgsOk.len {K : Fg} {G : Hp} {vs : List V} {xs : List Sl} (h : ArgsOk K G vs xs) : vs.length = xs.length := by
  induction h with
  | nil => rfl
  | cons _ _ ih => exact congrArg Nat.succ ih
abbrev aNil : Unit → List Sl := fun _ => []
abbrev aCons {α ι : Type} (i : Rp α) (as : ι → List Sl) : α × ι → List Sl := fun x => .val i x.1 :: as x.2
abbrev aRf {ι : Type} (a : Addr) (as : ι → List Sl) : ι → List Sl := fun x => .rf a :: as x
structure JA (X : Cx) (c : Cn) (es : List Expr) (ρ : List Sl) {ι : Type} (as : ι → List Sl) (t : TA) (Φ : Pt ι) : Prop where
  pe : PA X es t
  sem : ∀ post ep, Φ post ep → ∀ G H σ, Wd c.rs G H → En X.K c.rs c.H0 G H σ ρ → ∀ Q : List V → Hp → Prop, (∀ G' H' vs x, Gr c.rs G H G' H' → ArgsOk X.K G' vs (as x) → post x → Q vs H') → XOk X c G H σ ep → t σ H Q

inductive Out (S L β : Type) where
  | nx (s : S)
  | rt (b : β)
  | bk (l : L)
  | ct (l : L)
/-- Gb: what is known for good where the block begins -/
structure EndsOk (X : Cx) (c : Cn) (Gb : Hp) {S L β : Type} (i : Rp β) (out : S → List Sl) (lp : L → List Sl) (post : Out S L β → Prop) (D : Ends) : Prop where
  nx : ∀ G' H' σ' s, Gr c.rs c.G0 c.H0 G' H' → Ex Gb G' → En X.K c.rs c.H0 G' H' σ' (out s) → post (.nx s) → D.nx σ' H'
  rt : ∀ G' H' v b, Gr c.rs c.G0 c.H0 G' H' → Ex Gb G' → i.rp X.K G' v b → post (.rt b) → D.rt v H'
  bk : ∀ G' H' σ' l, Gr c.rs c.G0 c.H0 G' H' → Ex Gb G' → En X.K c.rs c.H0 G' H' σ' (lp l) → post (.bk l) → D.bk σ' H'
  ct : ∀ G' H' σ' l, Gr c.rs c.G0 c.H0 G' H' → Ex Gb G' → En X.K c.rs c.H0 G' H' σ' (lp l) → post (.ct l) → D.ct σ' H'
theorem EndsOk.up {X : Cx} {c : Cn} {Gb G1 : Hp} {S L β : Type} {i : Rp β} {out : S → List Sl} {lp : L → List Sl} {post : Out S L β → Prop} {D : Ends} (h : EndsOk X c Gb i out lp post D) (e : Ex Gb G1) : EndsOk X c G1 i out lp post D :=
  ⟨fun G' H' σ' s g x => h.nx G' H' σ' s g (e.trans x), fun G' H' v b g x => h.rt G' H' v b g (e.trans x), fun G' H' σ' s g x => h.bk G' H' σ' s g (e.trans x), fun G' H' σ' s g x => h.ct G' H' σ' s g (e.trans x)⟩
/-- .. from the entry on, whatever the slots -/
def XOkS (X : Cx) (c : Cn) (ep : Exn → Prop) : Prop := ∀ G' H' σ' cls d e, Gr c.rs c.G0 c.H0 G' H' → XRep X.K G' H' cls d e → ep e → c.wsh cls d σ' H'
theorem XOkS.at {X : Cx} {c : Cn} {ep : Exn → Prop} (h : XOkS X c ep) {G H : Hp} {σ : L2.St} (g : Gr c.rs c.G0 c.H0 G H) : XOk X c G H σ ep := fun G' H' cls d e g' => h G' H' σ cls d e (g.trans g')
structure JB (X : Cx) (c : Cn) (ss : List Stmt) (ρ : List Sl) {S L β : Type} (out : S → List Sl) (lp : L → List Sl) (i : Rp β) (t : TS) (Φ : Pt (Out S L β)) : Prop where
  pe : PSs X ss t
  sem : ∀ post ep, Φ post ep → ∀ G H σ, Gr c.rs c.G0 c.H0 G H → En X.K c.rs c.H0 G H σ ρ → ∀ D : Ends, EndsOk X c G i out lp post D → XOkS X c ep → t D σ H
end Ty

set_option Elab.async false
set_option linter.all false
set_option maxRecDepth 100000
set_option maxHeartbeats 4000000
set_option autoImplicit false
/-! Ty, part B: expressions -/
namespace Ty
open PySem PySem.Spec L2

/-! ### operators by values -/
structure OpW (X : Cx) (F : Value → Value → Sem Value) {α β γ : Type} (iα : Rp α) (iβ : Rp β) (iγ : Rp γ) (r : R2) (Φ : α → β → Pt γ) : Prop where
  pe : OpR X F r
  sem : ∀ (rs : Rs) (G H : Hp) (x y : V) (a : α) (b : β) (post : γ → Prop) (ep : Exn → Prop) (Q : VK), Wd rs G H → iα.rp X.K G x a → iβ.rp X.K G y b → Φ a b post ep →
    (∀ G' H' z m, Gr rs G H G' H' → iγ.rp X.K G' z m → post m → Q z H') → r x y H Q
structure UnW (X : Cx) (F : Value → Sem Value) {α γ : Type} (iα : Rp α) (iγ : Rp γ) (r : V → Hp → VK → Prop) (Φ : α → Pt γ) : Prop where
  pe : UnR X F r
  sem : ∀ (rs : Rs) (G H : Hp) (x : V) (a : α) (post : γ → Prop) (ep : Exn → Prop) (Q : VK), Wd rs G H → iα.rp X.K G x a → Φ a post ep →
    (∀ G' H' z m, Gr rs G H G' H' → iγ.rp X.K G' z m → post m → Q z H') → r x H Q
/-- a call of a built-in by values -/
structure CallW (X : Cx) (F : Value) {ι γ : Type} (as : ι → List Sl) (iγ : Rp γ) (r : List V → Hp → VK → Prop) (Φ : ι → Pt γ) : Prop where
  pe : CallR X F r
  sem : ∀ (rs : Rs) (G H : Hp) (vs : List V) (x : ι) (post : γ → Prop) (ep : Exn → Prop) (Q : VK), Wd rs G H → ArgsOk X.K G vs (as x) → Φ x post ep →
    (∀ G' H' z m, Gr rs G H G' H' → iγ.rp X.K G' z m → post m → Q z H') → r vs H Q
structure IxW (X : Cx) {α β γ : Type} (iα : Rp α) (iβ : Rp β) (iγ : Rp γ) (r : R2) (Φ : α → β → Pt γ) : Prop where
  pe : IxR X r
  sem : ∀ (rs : Rs) (G H : Hp) (x y : V) (a : α) (b : β) (post : γ → Prop) (ep : Exn → Prop) (Q : VK), Wd rs G H → iα.rp X.K G x a → iβ.rp X.K G y b → Φ a b post ep →
    (∀ G' H' z m, Gr rs G H G' H' → iγ.rp X.K G' z m → post m → Q z H') → r x y H Q
def TruW {α : Type} (i : Rp α) (f : α → Bool) : Prop := ∀ (K : Fg) (G H : Hp) (v : V) (m : α), Ex G H → i.rp K G v m → TruV K v H (f m)

abbrev rAddT : R2 := fun x y H Q => ∃ i j, x = .str i ∧ y = .str j ∧ i.length + j.length ≤ sizeLine ∧ Q (.str (i ++ j)) H
abbrev rAbs : List V → Hp → VK → Prop := fun xs H Q => ∃ i, xs = [.int i] ∧ Q (.int (if i < 0 then -i else i)) H
abbrev rMax2 : List V → Hp → VK → Prop := fun xs H Q => ∃ i j, xs = [.int i, .int j] ∧ Q (.int (if j > i then j else i)) H
abbrev rMin2 : List V → Hp → VK → Prop := fun xs H Q => ∃ i j, xs = [.int i, .int j] ∧ Q (.int (if j < i then j else i)) H
abbrev rInt1 : List V → Hp → VK → Prop := fun xs H Q => (∃ i, xs = [.int i] ∧ Q (.int i) H) ∨ ∃ k, xs = [.bl k] ∧ Q (.int (if k then 1 else 0)) H
abbrev rBool1 : List V → Hp → VK → Prop := fun xs H Q => (∃ i, xs = [.int i] ∧ Q (.bl (i != 0)) H) ∨ ∃ k, xs = [.bl k] ∧ Q (.bl k) H
abbrev rStrI : List V → Hp → VK → Prop := fun xs H Q => ∃ i, xs = [.int i] ∧ i.natAbs.log2 < 1920 ∧ Q (.str (toString i)) H
abbrev rLenQ (K : Fg) : List V → Hp → VK → Prop := fun xs H Q => ∃ p ys, xs = [.ref p] ∧ (SqL K H p ys ∨ SqT K H p ys) ∧ Q (.int ys.length) H
abbrev rLenV (K : Fg) : List V → Hp → VK → Prop := fun xs H Q => ∃ x n, xs = [x] ∧ LenV K x H n ∧ Q (.int n) H
theorem one1 {K : Fg} {G : Hp} {vs : List V} {α : Type} {i : Rp α} {m : α} (h : ArgsOk K G vs [.val i m]) : ∃ v, vs = [v] ∧ i.rp K G v m := by
  cases h with
  | cons h t =>
    cases t
    cases h with
    | val h => exact ⟨_, rfl, h⟩
theorem two2 {K : Fg} {G : Hp} {vs : List V} {α β : Type} {i : Rp α} {j : Rp β} {m : α} {n : β} (h : ArgsOk K G vs [.val i m, .val j n]) : ∃ v u, vs = [v, u] ∧ i.rp K G v m ∧ j.rp K G u n := by
  cases h with
  | cons h t =>
    obtain ⟨u, rfl, h2⟩ := one1 t
    cases h with
    | val h => exact ⟨_, u, rfl, h, h2⟩

section
variable {X : Cx}
theorem opw_I {F : Value → Value → Sem Value} {C : Int → Int → Prop} {g : Int → Int → Int} (h : OpR X F (rI C fun i j => .int (g i j))) : OpW X F rpI rpI rpI (rI C fun i j => .int (g i j)) (fun a b post _ => C a b ∧ post (g a b)) :=
  ⟨h, fun rs G H x y a b post ep Q w hx hy φ k => ⟨a, b, hx, hy, φ.1, k G H _ _ (Gr.refl w) rfl φ.2⟩⟩
theorem opw_I0 {F : Value → Value → Sem Value} {g : Int → Int → Int} (h : OpR X F (rI0 fun i j => .int (g i j))) : OpW X F rpI rpI rpI (rI0 fun i j => .int (g i j)) (fun a b post _ => post (g a b)) :=
  ⟨h, fun rs G H x y a b post ep Q w hx hy φ k => ⟨a, b, hx, hy, k G H _ _ (Gr.refl w) rfl φ⟩⟩
theorem opw_B0 {F : Value → Value → Sem Value} {g : Int → Int → Bool} (h : OpR X F (rI0 fun i j => .bl (g i j))) : OpW X F rpI rpI rpB (rI0 fun i j => .bl (g i j)) (fun a b post _ => post (g a b)) :=
  ⟨h, fun rs G H x y a b post ep Q w hx hy φ k => ⟨a, b, hx, hy, k G H _ _ (Gr.refl w) rfl φ⟩⟩
theorem add_I : OpW X (binaryOp .Add) rpI rpI rpI (rI0 fun i j => .int (i + j)) (fun a b post _ => post (a + b)) := opw_I0 op_add
theorem sub_I : OpW X (binaryOp .Sub) rpI rpI rpI (rI0 fun i j => .int (i - j)) (fun a b post _ => post (a - b)) := opw_I0 op_sub
theorem mul_I : OpW X (binaryOp .Mult) rpI rpI rpI (rI CMul fun i j => .int (i * j)) (fun a b post _ => CMul a b ∧ post (a * b)) := opw_I op_mul
theorem mod_I : OpW X (binaryOp .Mod) rpI rpI rpI (rI (fun _ j => 0 < j) fun i j => .int (i % j)) (fun a b post _ => 0 < b ∧ post (a % b)) := opw_I op_mod
theorem fdiv_I : OpW X (binaryOp .FloorDiv) rpI rpI rpI (rI CDiv fun i j => .int (i / j)) (fun a b post _ => CDiv a b ∧ post (a / b)) := opw_I op_fdiv
theorem pow_I : OpW X (binaryOp .Pow) rpI rpI rpI (rI CPow fun i j => .int (i ^ j.toNat)) (fun a b post _ => CPow a b ∧ post (a ^ b.toNat)) := opw_I op_pow
theorem add_S : OpW X (binaryOp .Add) rpS rpS rpS rAddT (fun a b post _ => a.length + b.length ≤ sizeLine ∧ post (a ++ b)) :=
  ⟨op_add_str, fun rs G H x y a b post ep Q w hx hy φ k => ⟨a, b, hx, hy, φ.1, k G H _ _ (Gr.refl w) rfl φ.2⟩⟩
/-- lists -/
theorem RpAll.append {α : Type} {i : Rp α} {K : Fg} {G : Hp} : ∀ {vs us : List V} {ms ns : List α}, RpAll i K G vs ms → RpAll i K G us ns → RpAll i K G (vs ++ us) (ms ++ ns)
  | _, _, _, _, .nil, h => h
  | _, _, _, _, .cons a t, h => .cons a (RpAll.append t h)
theorem add_L {α : Type} {i : Rp α} : OpW X (binaryOp .Add) (rpL (i := i)) (rpL (i := i)) (rpL (i := i)) rCat (fun a b post _ => a.length + b.length ≤ sizeLine ∧ post (a ++ b)) :=
  ⟨op_cat, fun rs G H x y a b post ep Q w hx hy φ k => by
    obtain ⟨l, vs, rfl, h1, h2, h3⟩ := hx
    obtain ⟨l', us, rfl, h4, h5, h6⟩ := hy
    have e1 := h2.length
    have e2 := h5.length
    have hz : vs.length + us.length ≤ sizeLine := by rw [e1, e2]; exact φ.1
    refine ⟨l, l', vs, us, rfl, rfl, w.s _ _ h1, w.s _ _ h4, hz, fun p hp => ?_⟩
    have g := gr_new (o := .lst (vs ++ us)) w hp
    exact k _ _ _ _ g ⟨p, vs ++ us, rfl, upd_same, (h2.append h5).mono g.g, by rw [List.length_append]; exact hz⟩ φ.2⟩
theorem lt_I : OpW X (compareOp .Lt) rpI rpI rpB (rI0 fun i j => .bl (decide (i < j))) (fun a b post _ => post (decide (a < b))) := opw_B0 op_lt
theorem le_I : OpW X (compareOp .LtE) rpI rpI rpB (rI0 fun i j => .bl (decide (i ≤ j))) (fun a b post _ => post (decide (a ≤ b))) := opw_B0 op_le
theorem gt_I : OpW X (compareOp .Gt) rpI rpI rpB (rI0 fun i j => .bl (decide (j < i))) (fun a b post _ => post (decide (b < a))) := opw_B0 op_gt
theorem ge_I : OpW X (compareOp .GtE) rpI rpI rpB (rI0 fun i j => .bl (decide (j ≤ i))) (fun a b post _ => post (decide (b ≤ a))) := opw_B0 op_ge
/-- values that are no objects: == by the value -/
class Sc (α : Type) [DecidableEq α] (i : Rp α) where
  out : ∀ {K : Fg} {G : Hp} {x y : V} {a b : α}, i.rp K G x a → i.rp K G y b → scal x y = true ∧ decide (x = y) = decide (a = b)
instance : Sc Int rpI := ⟨fun {K G x y a b} h1 h2 => by
  obtain rfl : x = .int a := h1
  obtain rfl : y = .int b := h2
  exact ⟨rfl, by simp⟩⟩
instance : Sc Bool rpB := ⟨fun {K G x y a b} h1 h2 => by
  obtain rfl : x = .bl a := h1
  obtain rfl : y = .bl b := h2
  exact ⟨rfl, by simp⟩⟩
instance : Sc Str rpS := ⟨fun {K G x y a b} h1 h2 => by
  obtain rfl : x = .str a := h1
  obtain rfl : y = .str b := h2
  exact ⟨rfl, by simp⟩⟩
theorem eq_V {α : Type} [DecidableEq α] {i : Rp α} [s : Sc α i] : OpW X (compareOp .Eq) i i rpB rEq (fun a b post _ => post (decide (a = b))) :=
  ⟨op_eq, fun rs G H x y a b post ep Q w hx hy φ k => by
    obtain ⟨h1, h2⟩ := s.out hx hy
    exact ⟨h1, k G H _ _ (Gr.refl w) (by rw [h2]; rfl) φ⟩⟩
theorem ne_V {α : Type} [DecidableEq α] {i : Rp α} [s : Sc α i] : OpW X (compareOp .NotEq) i i rpB rNe (fun a b post _ => post (!decide (a = b))) :=
  ⟨op_ne, fun rs G H x y a b post ep Q w hx hy φ k => by
    obtain ⟨h1, h2⟩ := s.out hx hy
    exact ⟨h1, k G H _ _ (Gr.refl w) (by rw [h2]; rfl) φ⟩⟩
theorem neg_I : UnW X (unaryOp .USub) rpI rpI (rU fun i => .int (-i)) (fun a post _ => post (-a)) :=
  ⟨un_neg, fun rs G H x a post ep Q w hx φ k => ⟨a, hx, k G H _ _ (Gr.refl w) rfl φ⟩⟩

/-! ### items -/
def atN {α : Type} (xs : List α) (i : Int) : Option α := if 0 ≤ i then xs[i.toNat]? else if 0 ≤ i + xs.length then xs[(i + xs.length).toNat]? else none
theorem RpAll.at {α : Type} {i : Rp α} {K : Fg} {G : Hp} {vs : List V} {ms : List α} {k : Int} {m : α} (h : RpAll i K G vs ms) (e : atI ms k = some m) : ∃ v, atI vs k = some v ∧ i.rp K G v m := by
  have hl := h.length
  unfold atI at e ⊢
  rw [hl]
  cases q : ixN ms.length k with
  | none =>
    rw [q] at e
    cases e
  | some j =>
    rw [q] at e
    obtain ⟨v, h1, h2⟩ := h.get (j := j) e
    exact ⟨v, h1, h2⟩
theorem ix_L {α : Type} {i : Rp α} : IxW X (rpL (i := i)) rpI i (rIxL X.K) (fun xs k post _ => ∃ m, atI xs k = some m ∧ post m) :=
  ⟨ix_list, fun rs G H x y a b post ep Q w hx hy φ k => by
    obtain ⟨l, vs, rfl, h1, h2, h3⟩ := hx
    obtain ⟨m, e, p⟩ := φ
    obtain ⟨v, e1, r⟩ := h2.at e
    exact ⟨l, vs, b, v, rfl, hy, SqL.of (w.s _ _ h1), e1, k G H _ _ (Gr.refl w) r p⟩⟩
theorem ix_T {α : Type} {i : Rp α} : IxW X (rpT (i := i)) rpI i (rIxT X.K) (fun xs k post _ => ∃ m, atI xs.l k = some m ∧ post m) :=
  ⟨ix_tup, fun rs G H x y a b post ep Q w hx hy φ k => by
    obtain ⟨l, vs, rfl, h1, h2, h3⟩ := hx
    obtain ⟨m, e, p⟩ := φ
    obtain ⟨v, e1, r⟩ := h2.at e
    exact ⟨l, vs, b, v, rfl, hy, w.s.st h1, e1, k G H _ _ (Gr.refl w) r p⟩⟩
theorem ix_S : IxW X rpS rpI rpS rIxS (fun z k post _ => z.length ≤ sizeLine ∧ ∃ m, atI z.cps.toList k = some m ∧ post ⟨#[m]⟩) :=
  ⟨ix_str, fun rs G H x y a b post ep Q w hx hy φ k => by
    obtain ⟨hz, m, e, p⟩ := φ
    exact ⟨a, b, m, hx, hy, hz, e, k G H _ _ (Gr.refl w) rfl p⟩⟩
/-- a pair's places -/
theorem ix_2a {α β : Type} {i : Rp α} {j : Rp β} : IxW X (rp2 (i := i) (j := j)) rpI i (rIxT X.K) (fun p k post _ => k = 0 ∧ post p.1) :=
  ⟨ix_tup, fun rs G H x y a b post ep Q w hx hy φ k => by
    obtain ⟨l, u, v, rfl, h1, h2, h3⟩ := hx
    obtain ⟨rfl, p⟩ := φ
    exact ⟨l, [u, v], 0, u, rfl, hy, w.s.st h1, rfl, k G H _ _ (Gr.refl w) h2 p⟩⟩
theorem ix_2b {α β : Type} {i : Rp α} {j : Rp β} : IxW X (rp2 (i := i) (j := j)) rpI j (rIxT X.K) (fun p k post _ => k = 1 ∧ post p.2) :=
  ⟨ix_tup, fun rs G H x y a b post ep Q w hx hy φ k => by
    obtain ⟨l, u, v, rfl, h1, h2, h3⟩ := hx
    obtain ⟨rfl, p⟩ := φ
    exact ⟨l, [u, v], 1, v, rfl, hy, w.s.st h1, rfl, k G H _ _ (Gr.refl w) h3 p⟩⟩
/-- a pair of two alike at an open place -/
theorem ix_2c {α : Type} {i : Rp α} : IxW X (rp2 (i := i) (j := i)) rpI i (rIxT X.K) (fun p k post _ => (k = 0 ∧ post p.1) ∨ (k = 1 ∧ post p.2)) :=
  ⟨ix_tup, fun rs G H x y a b post ep Q w hx hy φ k => by
    obtain ⟨l, u, v, rfl, h1, h2, h3⟩ := hx
    rcases φ with ⟨rfl, p⟩ | ⟨rfl, p⟩
    · exact ⟨l, [u, v], 0, u, rfl, hy, w.s.st h1, rfl, k G H _ _ (Gr.refl w) h2 p⟩
    · exact ⟨l, [u, v], 1, v, rfl, hy, w.s.st h1, rfl, k G H _ _ (Gr.refl w) h3 p⟩⟩

/-! ### built-ins -/
theorem abs_I : CallW X (.builtin "abs") (aCons rpI aNil) rpI rAbs (fun x post _ => post (if x.1 < 0 then -x.1 else x.1)) :=
  ⟨call_abs, fun rs G H vs x post ep Q w ha φ k => by
    obtain ⟨v, rfl, rfl⟩ := one1 ha
    exact ⟨x.1, rfl, k G H _ _ (Gr.refl w) rfl φ⟩⟩
theorem max_I (hc : X.calm = true) : CallW X (.builtin "max") (aCons rpI (aCons rpI aNil)) rpI rMax2 (fun x post _ => post (max x.1 x.2.1)) :=
  ⟨call_max2 hc, fun rs G H vs x post ep Q w ha φ k => by
    obtain ⟨v, u, rfl, rfl, rfl⟩ := two2 ha
    refine ⟨x.1, x.2.1, rfl, k G H _ _ (Gr.refl w) ?_ φ⟩
    show V.int _ = V.int _
    congr 1
    split <;> omega⟩
theorem min_I (hc : X.calm = true) : CallW X (.builtin "min") (aCons rpI (aCons rpI aNil)) rpI rMin2 (fun x post _ => post (min x.1 x.2.1)) :=
  ⟨call_min2 hc, fun rs G H vs x post ep Q w ha φ k => by
    obtain ⟨v, u, rfl, rfl, rfl⟩ := two2 ha
    refine ⟨x.1, x.2.1, rfl, k G H _ _ (Gr.refl w) ?_ φ⟩
    show V.int _ = V.int _
    congr 1
    split <;> omega⟩
theorem int_I : CallW X (.type "int") (aCons rpI aNil) rpI rInt1 (fun x post _ => post x.1) :=
  ⟨call_int1, fun rs G H vs x post ep Q w ha φ k => by
    obtain ⟨v, rfl, rfl⟩ := one1 ha
    exact .inl ⟨x.1, rfl, k G H _ _ (Gr.refl w) rfl φ⟩⟩
theorem int_B : CallW X (.type "int") (aCons rpB aNil) rpI rInt1 (fun x post _ => post (if x.1 then 1 else 0)) :=
  ⟨call_int1, fun rs G H vs x post ep Q w ha φ k => by
    obtain ⟨v, rfl, rfl⟩ := one1 ha
    exact .inr ⟨x.1, rfl, k G H _ _ (Gr.refl w) rfl φ⟩⟩
theorem bool_B : CallW X (.type "bool") (aCons rpB aNil) rpB rBool1 (fun x post _ => post x.1) :=
  ⟨call_bool1, fun rs G H vs x post ep Q w ha φ k => by
    obtain ⟨v, rfl, rfl⟩ := one1 ha
    exact .inr ⟨x.1, rfl, k G H _ _ (Gr.refl w) rfl φ⟩⟩
theorem str_I : CallW X (.type "str") (aCons rpI aNil) rpS rStrI (fun x post _ => x.1.natAbs.log2 < 1920 ∧ post (toString x.1)) :=
  ⟨call_str_int, fun rs G H vs x post ep Q w ha φ k => by
    obtain ⟨v, rfl, rfl⟩ := one1 ha
    exact ⟨x.1, rfl, φ.1, k G H _ _ (Gr.refl w) rfl φ.2⟩⟩
theorem len_L {α : Type} {i : Rp α} : CallW X (.builtin "len") (aCons (rpL (i := i)) aNil) rpI (rLenQ X.K) (fun x post _ => x.1.length ≤ sizeLine → post (x.1.length : Int)) :=
  ⟨call_len_seq, fun rs G H vs x post ep Q w ha φ k => by
    obtain ⟨v, rfl, l, us, rfl, h1, h2, h3⟩ := one1 ha
    have e := h2.length
    refine ⟨l, us, rfl, .inl (SqL.of (w.s _ _ h1)), k G H _ _ (Gr.refl w) (by show V.int _ = V.int _; rw [e]) (φ (by rw [← e]; exact h3))⟩⟩
theorem len_T {α : Type} {i : Rp α} : CallW X (.builtin "len") (aCons (rpT (i := i)) aNil) rpI (rLenQ X.K) (fun x post _ => x.1.l.length ≤ sizeLine → post (x.1.l.length : Int)) :=
  ⟨call_len_seq, fun rs G H vs x post ep Q w ha φ k => by
    obtain ⟨v, rfl, l, us, rfl, h1, h2, h3⟩ := one1 ha
    have e := h2.length
    refine ⟨l, us, rfl, .inr (w.s.st h1), k G H _ _ (Gr.refl w) (by show V.int _ = V.int _; rw [e]) (φ (by rw [← e]; exact h3))⟩⟩
theorem len_S : CallW X (.builtin "len") (aCons rpS aNil) rpI (rLenV X.K) (fun x post _ => x.1.length ≤ sizeLine ∧ post (x.1.length : Int)) :=
  ⟨call_len, fun rs G H vs x post ep Q w ha φ k => by
    obtain ⟨v, rfl, rfl⟩ := one1 ha
    exact ⟨_, x.1.length, rfl, ⟨φ.1, rfl⟩, k G H _ _ (Gr.refl w) rfl φ.2⟩⟩
end

/-! ### truth -/
theorem tru_B : TruW rpB id := fun K G H v m e h => by
  obtain rfl : v = .bl m := h
  rfl
theorem tru_I : TruW rpI (fun n => n != 0) := fun K G H v m e h => by
  obtain rfl : v = .int m := h
  rfl
theorem emp {α : Type} {i : Rp α} {K : Fg} {G : Hp} {vs : List V} {ms : List α} (h : RpAll i K G vs ms) : vs.isEmpty = ms.isEmpty := by cases h <;> rfl
theorem tru_L {α : Type} {i : Rp α} : TruW (rpL (i := i)) (fun xs => !xs.isEmpty) := fun K G H v m e h => by
  obtain ⟨l, us, rfl, h1, h2, h3⟩ := h
  exact .inl ⟨us, SqL.of (e _ _ h1), by rw [emp h2]⟩
theorem tru_T {α : Type} {i : Rp α} : TruW (rpT (i := i)) (fun xs => !xs.l.isEmpty) := fun K G H v m e h => by
  obtain ⟨l, us, rfl, h1, h2, h3⟩ := h
  exact .inr (.inl ⟨us, e.st h1, by rw [emp h2]⟩)

/-! ### expressions -/
section
variable {X : Cx} {c : Cn} {ρ : List Sl} {α β γ : Type} {iα : Rp α} {iβ : Rp β} {iγ : Rp γ} {a b : Expr} {pos : Pos} {Φa : Pt α} {Φb : Pt β} {ta tb td : TE} {r r' : R2}
theorem e_var {i : Rp α} {m : α} (j : Nat) {x : Str} (hρ : ρ[j]? = some (.val i m)) (hN : X.N[j]? = some x := by rfl) (hv : Vis X.env.scope x := by first | exact Or.inl rfl | exact Or.inr (Or.inl rfl) | exact Or.inr (Or.inr rfl))
    (hd : (x == ("__debug__" : Str)) = false := by decide) (hcd : (x == ("__classdict__" : Str)) = false := by decide) : JE X c (.Name x pos) ρ i (tVar j) (fun post _ => post m) :=
  ⟨pe_var hN hv hd hcd, fun post ep φ G H σ w E Q k hx => by
    obtain ⟨v, h1, h2⟩ := E.val hρ
    exact ⟨v, h1, k G H v m (Gr.refl w) h2 φ⟩⟩
theorem e_int {n : Int} {j : Nat} : JE X c (.Constant (.int n) j pos) ρ rpI (tC (.int n)) (fun post _ => post n) := ⟨pe_int, fun post ep φ G H σ w E Q k hx => k G H _ _ (Gr.refl w) rfl φ⟩
theorem e_bool {n : Bool} {j : Nat} : JE X c (.Constant (.bool n) j pos) ρ rpB (tC (.bl n)) (fun post _ => post n) := ⟨pe_bl, fun post ep φ G H σ w E Q k hx => k G H _ _ (Gr.refl w) rfl φ⟩
theorem e_str {n : Str} {j : Nat} : JE X c (.Constant (.str n) j pos) ρ rpS (tC (.str n)) (fun post _ => post n) := ⟨pe_str, fun post ep φ G H σ w E Q k hx => k G H _ _ (Gr.refl w) rfl φ⟩
theorem e_non {j : Nat} : JE X c (.Constant .none j pos) ρ rpN (tC .non) (fun post _ => post ()) := ⟨pe_non, fun post ep φ G H σ w E Q k hx => k G H _ _ (Gr.refl w) rfl φ⟩
/-- a constant of the module -/
theorem e_glob {i : Rp α} {m : α} {x : Str} {v : V} {u : Value} (hm : X.mg x = some u) (rv : RelV v u) (h : ∀ G, i.rp X.K G v m) (hg : Gl X x := by rfl) (hd : (x == ("__debug__" : Str)) = false := by decide) : JE X c (.Name x pos) ρ i (tC v) (fun post _ => post m) :=
  ⟨pe_glob hg hm rv hd, fun post ep φ G H σ w E Q k hx => k G H _ _ (Gr.refl w) (h G) φ⟩
theorem two_sem {Φ : α → β → Pt γ} {R : R2} (ho : ∀ (rs : Rs) (G H : Hp) (x y : V) (a : α) (b : β) (post : γ → Prop) (ep : Exn → Prop) (Q : VK), Wd rs G H → iα.rp X.K G x a → iβ.rp X.K G y b → Φ a b post ep → (∀ G' H' z m, Gr rs G H G' H' → iγ.rp X.K G' z m → post m → Q z H') → R x y H Q)
    (ha : JE X c a ρ iα ta Φa) (hb : JE X c b ρ iβ tb Φb) (post : γ → Prop) (ep : Exn → Prop) (φ : Φa (fun x => Φb (fun y => Φ x y post ep) ep) ep) (G H : Hp) (σ : L2.St) (w : Wd c.rs G H) (E : En X.K c.rs c.H0 G H σ ρ) (Q : VK)
    (k : ∀ G' H' v m, Gr c.rs G H G' H' → iγ.rp X.K G' v m → post m → Q v H') (hx : XOk X c G H σ ep) : ta σ H fun x H1 => tb σ H1 fun y H2 => R x y H2 Q := by
  refine ha.sem _ _ φ G H σ w E _ (fun G1 H1 v1 m1 g1 r1 φ1 => ?_) hx
  refine hb.sem _ _ φ1 G1 H1 σ g1.w (E.up g1) _ (fun G2 H2 v2 m2 g2 r2 φ2 => ?_) (hx.up g1)
  exact ho _ _ _ _ _ _ _ _ _ _ g2.w (Rp.mono g2.g r1) r2 φ2 fun G3 H3 z m g3 r3 p => k G3 H3 z m ((g1.trans g2).trans g3) r3 p
theorem e_op {op : Operator} {Φ : α → β → Pt γ} (ho : OpW X (binaryOp op) iα iβ iγ r Φ) (ha : JE X c a ρ iα ta Φa) (hb : JE X c b ρ iβ tb Φb) : JE X c (.BinOp a op b pos) ρ iγ (tOp r ta tb) (fun post ep => Φa (fun x => Φb (fun y => Φ x y post ep) ep) ep) :=
  ⟨pe_op ho.pe ha.pe hb.pe, fun post ep φ G H σ w E Q k hx => two_sem ho.sem ha hb post ep φ G H σ w E Q k hx⟩
theorem e_un {op : UnaryOp} {r : V → Hp → VK → Prop} {Φ : α → Pt γ} (ho : UnW X (unaryOp op) iα iγ r Φ) (ha : JE X c a ρ iα ta Φa) : JE X c (.UnaryOp op a pos) ρ iγ (tUn r ta) (fun post ep => Φa (fun x => Φ x post ep) ep) := by
  refine ⟨pe_un ho.pe ha.pe, fun post ep φ G H σ w E Q k hx => ?_⟩
  refine ha.sem _ _ φ G H σ w E _ (fun G1 H1 v1 m1 g1 r1 φ1 => ?_) hx
  exact ho.sem _ _ _ _ _ _ _ _ g1.w r1 φ1 fun G3 H3 z m g3 r3 p => k G3 H3 z m (g1.trans g3) r3 p
theorem e_cmp {op : CmpOp} {Φ : α → β → Pt γ} (ho : OpW X (compareOp op) iα iβ iγ r Φ) (ha : JE X c a ρ iα ta Φa) (hb : JE X c b ρ iβ tb Φb) (hm : behindInMarks op b = false) : JE X c (.Compare a [op] [b] pos) ρ iγ (tOp r ta tb) (fun post ep => Φa (fun x => Φb (fun y => Φ x y post ep) ep) ep) :=
  ⟨pe_cmpR ho.pe ha.pe hb.pe hm, fun post ep φ G H σ w E Q k hx => two_sem ho.sem ha hb post ep φ G H σ w E Q k hx⟩
theorem t_cmp {op : CmpOp} {Φ : α → β → Pt Bool} (ho : OpW X (compareOp op) iα iβ rpB r Φ) (ha : JE X c a ρ iα ta Φa) (hb : JE X c b ρ iβ tb Φb) (hm : behindInMarks op b = false) : JT X c (.Compare a [op] [b] pos) ρ (tTest (tOp r ta tb)) (fun post ep => Φa (fun x => Φb (fun y => Φ x y post ep) ep) ep) :=
  ⟨pt_cmpR ho.pe ha.pe hb.pe hm, fun post ep φ G H σ w E Q k hx => two_sem (iγ := rpB) ho.sem ha hb post ep φ G H σ w E _ (fun G3 H3 z m g r3 p => ⟨m, r3, k G3 H3 m g p⟩) hx⟩
section
variable {d : Expr} {δ : Type} {iδ : Rp δ} {Φd : Pt δ} {op op' : CmpOp} {Φ : α → β → Pt Bool} {Φ' : β → δ → Pt Bool}
theorem chain_sem (ho : OpW X (compareOp op) iα iβ rpB r Φ) (ho' : OpW X (compareOp op') iβ iδ rpB r' Φ') (ha : JE X c a ρ iα ta Φa) (hb : JE X c b ρ iβ tb Φb) (hd : JE X c d ρ iδ td Φd)
    (post : Bool → Prop) (ep : Exn → Prop) (φ : Φa (fun x => Φb (fun y => Φ x y (fun k => if k = true then Φd (fun z => Φ' y z post ep) ep else post false) ep) ep) ep) (G H : Hp) (σ : L2.St) (w : Wd c.rs G H) (E : En X.K c.rs c.H0 G H σ ρ) (Q : VK)
    (k : ∀ G' H' v m, Gr c.rs G H G' H' → rpB.rp X.K G' v m → post m → Q v H') (hx : XOk X c G H σ ep) : tChain r r' ta tb td σ H Q := by
  refine ha.sem _ _ φ G H σ w E _ (fun G1 H1 v1 m1 g1 r1 φ1 => ?_) hx
  refine hb.sem _ _ φ1 G1 H1 σ g1.w (E.up g1) _ (fun G2 H2 v2 m2 g2 r2 φ2 => ?_) (hx.up g1)
  refine ho.sem _ _ _ _ _ _ _ _ _ _ g2.w (Rp.mono g2.g r1) r2 φ2 fun G3 H3 z m g3 r3 φ3 => ⟨m, r3, ?_⟩
  have g := (g1.trans g2).trans g3
  cases m with
  | false => exact k G3 H3 _ _ g rfl φ3
  | true =>
    refine hd.sem _ _ φ3 G3 H3 σ g3.w (E.up g) _ (fun G4 H4 v4 m4 g4 r4 φ4 => ?_) (hx.up g)
    exact ho'.sem _ _ _ _ _ _ _ _ _ _ g4.w (Rp.mono (g3.g.trans g4.g) r2) r4 φ4 fun G5 H5 z m g5 r5 p => k G5 H5 z m ((g.trans g4).trans g5) r5 p
theorem e_chain (ho : OpW X (compareOp op) iα iβ rpB r Φ) (ho' : OpW X (compareOp op') iβ iδ rpB r' Φ') (ha : JE X c a ρ iα ta Φa) (hb : JE X c b ρ iβ tb Φb) (hd : JE X c d ρ iδ td Φd) (hm : lastMarks [op, op'] [b, d] = false := by with_unfolding_all rfl) :
    JE X c (.Compare a [op, op'] [b, d] pos) ρ rpB (tChain r r' ta tb td) (fun post ep => Φa (fun x => Φb (fun y => Φ x y (fun k => if k = true then Φd (fun z => Φ' y z post ep) ep else post false) ep) ep) ep) :=
  ⟨pe_chain ho.pe ho'.pe ha.pe hb.pe hd.pe hm, fun post ep φ G H σ w E Q k hx => chain_sem ho ho' ha hb hd post ep φ G H σ w E Q k hx⟩
theorem t_chain (ho : OpW X (compareOp op) iα iβ rpB r Φ) (ho' : OpW X (compareOp op') iβ iδ rpB r' Φ') (ha : JE X c a ρ iα ta Φa) (hb : JE X c b ρ iβ tb Φb) (hd : JE X c d ρ iδ td Φd) (hm : lastMarks [op, op'] [b, d] = false := by with_unfolding_all rfl) :
    JT X c (.Compare a [op, op'] [b, d] pos) ρ (tTest (tChain r r' ta tb td)) (fun post ep => Φa (fun x => Φb (fun y => Φ x y (fun k => if k = true then Φd (fun z => Φ' y z post ep) ep else post false) ep) ep) ep) :=
  ⟨pt_chain ho.pe ho'.pe ha.pe hb.pe hd.pe hm, fun post ep φ G H σ w E Q k hx => chain_sem ho ho' ha hb hd post ep φ G H σ w E _ (fun G' H' v m g r p => ⟨m, r, k G' H' m g p⟩) hx⟩
end
/-! ### tests -/
variable {t1 t2 t3 : TT}
theorem t_val {Φa : Pt Bool} (ha : JE X c a ρ rpB ta Φa) (he : ∀ whole, isTrue a X.env whole = (do let v ← whole; standAt a.pos; holding [v] (truthy v)) := by intro _; rfl) : JT X c a ρ (tB ta) Φa :=
  ⟨pt_val ha.pe he, fun post ep φ G H σ w E Q k hx => ha.sem _ _ φ G H σ w E _ (fun G1 H1 v1 m1 g1 r1 p => ⟨m1, r1, k G1 H1 m1 g1 p⟩) hx⟩
theorem t_tru {f : α → Bool} (hf : TruW iα f) (ha : JE X c a ρ iα ta Φa) (he : ∀ whole, isTrue a X.env whole = (do let v ← whole; standAt a.pos; holding [v] (truthy v)) := by intro _; rfl) :
    JT X c a ρ (fun σ H Q => ta σ H fun x H' => ∃ k, TruV X.K x H' k ∧ Q k H') (fun post ep => Φa (fun x => post (f x)) ep) :=
  ⟨pt_truth ha.pe he, fun post ep φ G H σ w E Q k hx => ha.sem _ _ φ G H σ w E _ (fun G1 H1 v1 m1 g1 r1 p => ⟨f m1, hf X.K G1 H1 v1 m1 g1.w.s r1, k G1 H1 _ g1 p⟩) hx⟩
variable {Φ1 Φ2 : Pt Bool} {rest : List Expr}
theorem t_not (ha : JT X c a ρ t1 Φ1) : JT X c (.UnaryOp .Not a pos) ρ (tNot t1) (fun post ep => Φ1 (fun k => post (!k)) ep) :=
  ⟨pt_not ha.pe, fun post ep φ G H σ w E Q k hx => ha.sem _ _ φ G H σ w E _ (fun G1 H1 m1 g1 p => k G1 H1 _ g1 p) hx⟩
theorem t_pw (h : JW X c a ρ t1 Φ1) : JT X c a ρ t1 Φ1 := ⟨h.pe.pt, h.sem⟩
theorem tw_and1 (ha : JT X c a ρ t1 Φ1) : JW X c (.BoolOp .And [a] pos) ρ t1 Φ1 := ⟨pw_and1 ha.pe, ha.sem⟩
theorem tw_or1 (ha : JT X c a ρ t1 Φ1) : JW X c (.BoolOp .Or [a] pos) ρ t1 Φ1 := ⟨pw_or1 ha.pe, ha.sem⟩
theorem tw_and (ha : JT X c a ρ t1 Φ1) (hb : JW X c (.BoolOp .And (b :: rest) pos) ρ t2 Φ2) : JW X c (.BoolOp .And (a :: b :: rest) pos) ρ (tAnd t1 t2) (fun post ep => Φ1 (fun k => if k = true then Φ2 post ep else post false) ep) := by
  refine ⟨pw_and ha.pe hb.pe, fun post ep φ G H σ w E Q k hx => ha.sem _ _ φ G H σ w E _ (fun G1 H1 m1 g1 p => ?_) hx⟩
  cases m1 with
  | false => exact k G1 H1 _ g1 p
  | true => exact hb.sem _ _ p G1 H1 σ g1.w (E.up g1) _ (fun G2 H2 m2 g2 p => k G2 H2 _ (g1.trans g2) p) (hx.up g1)
theorem tw_or (ha : JT X c a ρ t1 Φ1) (hb : JW X c (.BoolOp .Or (b :: rest) pos) ρ t2 Φ2) : JW X c (.BoolOp .Or (a :: b :: rest) pos) ρ (tOr t1 t2) (fun post ep => Φ1 (fun k => if k = true then post true else Φ2 post ep) ep) := by
  refine ⟨pw_or ha.pe hb.pe, fun post ep φ G H σ w E Q k hx => ha.sem _ _ φ G H σ w E _ (fun G1 H1 m1 g1 p => ?_) hx⟩
  cases m1 with
  | true => exact k G1 H1 _ g1 p
  | false => exact hb.sem _ _ p G1 H1 σ g1.w (E.up g1) _ (fun G2 H2 m2 g2 p => k G2 H2 _ (g1.trans g2) p) (hx.up g1)
/-! ### and, or, not as values (bools) -/
theorem e_one {op : BoolOp} (ha : JE X c a ρ iα ta Φa) : JE X c (.BoolOp op [a] pos) ρ iα ta Φa := ⟨pe_one ha.pe, ha.sem⟩
theorem e_and (ha : JE X c a ρ rpB ta Φ1) (hb : JE X c (.BoolOp .And (b :: rest) pos) ρ rpB tb Φ2) : JE X c (.BoolOp .And (a :: b :: rest) pos) ρ rpB (tAndV ta tb) (fun post ep => Φ1 (fun k => if k = true then Φ2 post ep else post false) ep) := by
  refine ⟨pe_and ha.pe hb.pe, fun post ep φ G H σ w E Q k hx => ha.sem _ _ φ G H σ w E _ (fun G1 H1 v1 m1 g1 r1 p => ⟨m1, r1, ?_⟩) hx⟩
  cases m1 with
  | false => exact k G1 H1 _ _ g1 rfl p
  | true => exact hb.sem _ _ p G1 H1 σ g1.w (E.up g1) _ (fun G2 H2 v2 m2 g2 r2 p => k G2 H2 _ _ (g1.trans g2) r2 p) (hx.up g1)
theorem e_or (ha : JE X c a ρ rpB ta Φ1) (hb : JE X c (.BoolOp .Or (b :: rest) pos) ρ rpB tb Φ2) : JE X c (.BoolOp .Or (a :: b :: rest) pos) ρ rpB (tOrV ta tb) (fun post ep => Φ1 (fun k => if k = true then post true else Φ2 post ep) ep) := by
  refine ⟨pe_or ha.pe hb.pe, fun post ep φ G H σ w E Q k hx => ha.sem _ _ φ G H σ w E _ (fun G1 H1 v1 m1 g1 r1 p => ⟨m1, r1, ?_⟩) hx⟩
  cases m1 with
  | true => exact k G1 H1 _ _ g1 rfl p
  | false => exact hb.sem _ _ p G1 H1 σ g1.w (E.up g1) _ (fun G2 H2 v2 m2 g2 r2 p => k G2 H2 _ _ (g1.trans g2) r2 p) (hx.up g1)
theorem e_not (ha : JE X c a ρ rpB ta Φ1) : JE X c (.UnaryOp .Not a pos) ρ rpB (tNotV ta) (fun post ep => Φ1 (fun k => post (!k)) ep) :=
  ⟨pe_not ha.pe, fun post ep φ G H σ w E Q k hx => ha.sem _ _ φ G H σ w E _ (fun G1 H1 v1 m1 g1 r1 p => ⟨m1, r1, k G1 H1 _ _ g1 rfl p⟩) hx⟩
theorem e_if {t : Expr} {Φt : Pt Bool} {Φa' : Pt α} (ht : JT X c t ρ t1 Φt) (ha : JE X c a ρ iα ta Φa) (hb : JE X c b ρ iα tb Φa') : JE X c (.IfExp t a b pos) ρ iα (tIf t1 ta tb) (fun post ep => Φt (fun k => if k = true then Φa post ep else Φa' post ep) ep) := by
  refine ⟨pe_ifExp ht.pe ha.pe hb.pe, fun post ep φ G H σ w E Q k hx => ht.sem _ _ φ G H σ w E _ (fun G1 H1 m1 g1 p => ?_) hx⟩
  cases m1 with
  | true => exact ha.sem _ _ p G1 H1 σ g1.w (E.up g1) _ (fun G2 H2 v2 m2 g2 r2 p => k G2 H2 _ _ (g1.trans g2) r2 p) (hx.up g1)
  | false => exact hb.sem _ _ p G1 H1 σ g1.w (E.up g1) _ (fun G2 H2 v2 m2 g2 r2 p => k G2 H2 _ _ (g1.trans g2) r2 p) (hx.up g1)
/-! ### arguments, displays, items, calls -/
theorem a_nil : JA X c [] ρ aNil tNil (fun post _ => post ()) := ⟨pa_nil, fun post ep φ G H σ w E Q k hx => k G H [] () (Gr.refl w) .nil φ⟩
theorem a_cons {es : List Expr} {ι : Type} {as : ι → List Sl} {tr : TA} {Φr : Pt ι} (ha : JE X c a ρ iα ta Φa) (hr : JA X c es ρ as tr Φr) (hs : starEach (a :: es) X.env = (false, eval a X.env) :: starEach es X.env := by rfl) :
    JA X c (a :: es) ρ (aCons iα as) (tCons ta tr) (fun post ep => Φa (fun x => Φr (fun y => post (x, y)) ep) ep) := by
  refine ⟨pa_cons ha.pe hr.pe hs, fun post ep φ G H σ w E Q k hx => ha.sem _ _ φ G H σ w E _ (fun G1 H1 v1 m1 g1 r1 p => ?_) hx⟩
  exact hr.sem _ _ p G1 H1 σ g1.w (E.up g1) _ (fun G2 H2 vs x g2 r2 p => k G2 H2 _ (m1, x) (g1.trans g2) (.cons (.val (Rp.mono g2.g r1)) r2) p) (hx.up g1)
/-- the resource's own name -/
theorem a_rf {es : List Expr} {ι : Type} {as : ι → List Sl} {tr : TA} {Φr : Pt ι} {q : Addr} (j : Nat) {x : Str} (hρ : ρ[j]? = some (.rf q)) (hr : JA X c es ρ as tr Φr) (hN : X.N[j]? = some x := by rfl) (hv : Vis X.env.scope x := by first | exact Or.inl rfl | exact Or.inr (Or.inl rfl) | exact Or.inr (Or.inr rfl))
    (hd : (x == ("__debug__" : Str)) = false := by decide) (hcd : (x == ("__classdict__" : Str)) = false := by decide) (hs : starEach (.Name x pos :: es) X.env = (false, eval (.Name x pos) X.env) :: starEach es X.env := by rfl) :
    JA X c (.Name x pos :: es) ρ (aRf q as) (tCons (tVar j) tr) Φr := by
  refine ⟨pa_cons (pe_var hN hv hd hcd) hr.pe hs, fun post ep φ G H σ w E Q k hx => ⟨_, E.ok j _ hρ, ?_⟩⟩
  exact hr.sem _ _ φ G H σ w E _ (fun G2 H2 vs x g2 r2 p => k G2 H2 _ x g2 (.cons .rf r2) p) hx
theorem e_tup2 {e1 e2 : Expr} {k0 : Nat} {t : TA} {Φ : Pt (α × β × Unit)} (h : JA X c [e1, e2] ρ (aCons iα (aCons iβ aNil)) t Φ) : JE X c (.Tuple [e1, e2] k0 pos) ρ (rp2 (i := iα) (j := iβ)) (tTup t) (fun post ep => Φ (fun x => post (x.1, x.2.1)) ep) := by
  refine ⟨pe_tup h.pe, fun post ep φ G H σ w E Q k hx => h.sem _ _ φ G H σ w E _ (fun G1 H1 vs x g1 r1 p => ?_) hx⟩
  obtain ⟨v, u, rfl, h1, h2⟩ := two2 r1
  refine ⟨by show 2 ≤ sizeLine; decide, fun q hq => ?_⟩
  have g := gr_new (o := .tup [v, u]) g1.w hq
  exact k _ _ _ _ (g1.trans g) ⟨q, v, u, rfl, SqT.of upd_same, Rp.mono g.g h1, Rp.mono g.g h2⟩ p
/-- all arguments of one type -/
inductive AllA {α : Type} (i : Rp α) : {ι : Type} → (ι → List Sl) → (ι → List α) → Prop
  | nil : AllA i aNil (fun _ => [])
  | cons {ι : Type} {as : ι → List Sl} {f : ι → List α} : AllA i as f → AllA i (aCons i as) (fun x => x.1 :: f x.2)
theorem AllA.out {α : Type} {i : Rp α} {ι : Type} {as : ι → List Sl} {f : ι → List α} (h : AllA i as f) : ∀ {K : Fg} {G : Hp} {vs : List V} {x : ι}, ArgsOk K G vs (as x) → RpAll i K G vs (f x) := by
  induction h with
  | nil =>
    intro K G vs x r
    cases r
    exact .nil
  | cons _ ih =>
    intro K G vs x r
    cases r with
    | cons r t =>
      cases r with
      | val r => exact .cons r (ih t)
theorem e_list {es : List Expr} {ι : Type} {as : ι → List Sl} {f : ι → List α} {t : TA} {Φ : Pt ι} (h : JA X c es ρ as t Φ) (ha : AllA iα as f) : JE X c (.List es pos) ρ (rpL (i := iα)) (tLst t) (fun post ep => Φ (fun x => (f x).length ≤ sizeLine ∧ post (f x)) ep) := by
  refine ⟨pe_lst h.pe, fun post ep φ G H σ w E Q k hx => h.sem _ _ φ G H σ w E _ (fun G1 H1 vs x g1 r1 p => ?_) hx⟩
  have r := ha.out r1
  have hz : vs.length ≤ sizeLine := by rw [r.length]; exact p.1
  refine ⟨hz, fun q hq => ?_⟩
  have g := gr_new (o := .lst vs) g1.w hq
  exact k _ _ _ _ (g1.trans g) ⟨q, vs, rfl, upd_same, r.mono g.g, hz⟩ p.2
theorem e_ix {Φ : α → β → Pt γ} (ho : IxW X iα iβ iγ r Φ) (ha : JE X c a ρ iα ta Φa) (hb : JE X c b ρ iβ tb Φb) (hs : PlainIxT b := by exact fun _ _ => rfl) : JE X c (.Subscript a b pos) ρ iγ (tOp r ta tb) (fun post ep => Φa (fun x => Φb (fun y => Φ x y post ep) ep) ep) :=
  ⟨pe_ix ho.pe ha.pe hb.pe hs, fun post ep φ G H σ w E Q k hx => two_sem ho.sem ha hb post ep φ G H σ w E Q k hx⟩
section
variable {x : Str} {p : Pos} {e : Expr} {es : List Expr} {ι : Type} {as : ι → List Sl} {Φr : Pt ι} {Φ : ι → Pt γ} {t : TA} {rc : List V → Hp → VK → Prop}
theorem e_cb {id : String} (hc : CallW X (.builtin id) as iγ rc Φ) (hm : X.mg x = none) (ha : JA X c (e :: es) ρ as t Φr) (hv : bootBuiltins x = some (.builtin id) := by decide +kernel) (hg : Gl X x := by rfl) (hn : x ≠ "__name__" := by decide) (hdb : (x == ("__debug__" : Str)) = false := by decide)
    (he : starEach (e :: es) X.env = (false, eval e X.env) :: starEach es X.env := by rfl) (hpl : (backTo pos (starEach es X.env)).any (·.1) = false := by rfl) : JE X c (.Call (.Name x p) (e :: es) [] pos) ρ iγ (tCB rc t) (fun post ep => Φr (fun y => Φ y post ep) ep) := by
  refine ⟨pe_callB hc.pe hg hm hv ha.pe hn hdb he hpl, fun post ep φ G H σ w E Q k hx => ha.sem _ _ φ G H σ w E _ (fun G1 H1 vs y g1 r1 φ1 => ?_) hx⟩
  exact hc.sem _ _ _ _ _ _ _ _ g1.w r1 φ1 fun G3 H3 z m g3 r3 p => k G3 H3 z m (g1.trans g3) r3 p
theorem e_ct {T : String} (hc : CallW X (.type T) as iγ rc Φ) (hm : X.mg x = none) (ha : JA X c (e :: es) ρ as t Φr) (hv : bootBuiltins x = some (.type T) := by decide +kernel) (hg : Gl X x := by rfl) (hn : x ≠ "__name__" := by decide) (hdb : (x == ("__debug__" : Str)) = false := by decide)
    (he : starEach (e :: es) X.env = (false, eval e X.env) :: starEach es X.env := by rfl) (hpl : (backTo pos (starEach es X.env)).any (·.1) = false := by rfl) : JE X c (.Call (.Name x p) (e :: es) [] pos) ρ iγ (tCB rc t) (fun post ep => Φr (fun y => Φ y post ep) ep) := by
  refine ⟨pe_callTy hc.pe hg hm hv ha.pe hn hdb he hpl, fun post ep φ G H σ w E Q k hx => ha.sem _ _ φ G H σ w E _ (fun G1 H1 vs y g1 r1 φ1 => ?_) hx⟩
  exact hc.sem _ _ _ _ _ _ _ _ g1.w r1 φ1 fun G3 H3 z m g3 r3 p => k G3 H3 z m (g1.trans g3) r3 p
end
end

/-! ### what a def promises -/
def spOf (K : Fg) (rs : Rs) {ι β : Type} (as : ι → List Sl) (i : Rp β) (Φ : ι → Pt β) : Sp := fun vs H Q E =>
  ∃ (G : Hp) (x : ι) (post : β → Prop) (ep : Exn → Prop), Wd rs G H ∧ ArgsOk K G vs (as x) ∧ Φ x post ep ∧ (∀ G' H' v m, Gr rs G H G' H' → i.rp K G' v m → post m → Q v H') ∧
    ∀ G' H' cls d e, Gr rs G H G' H' → XRep K G' H' cls d e → ep e → E cls d H'
/-- with a resource that stands at q -/
def spR (K : Fg) (rs : Addr → Rs) {ι β : Type} (as : Addr → ι → List Sl) (i : Rp β) (Φ : ι → Pt β) : Sp := fun vs H Q E => ∃ q, spOf K (rs q) (as q) i Φ vs H Q E
section
variable {X : Cx} {c : Cn} {ρ : List Sl} {β ι : Type} {i : Rp β} {as : ι → List Sl} {Φr : Pt ι} {Φ : ι → Pt β} {k : Nat} {f : Addr} {fd : FuncData} {ps : List Str} {x : Str} {p pos : Pos} {e : Expr} {es : List Expr} {t : TA}
theorem e_callG {sp : Sp} (hsp : ∀ (G H : Hp) (vs : List V) (y : ι) (post : β → Prop) (ep : Exn → Prop) (Q : VK) (E : XK), Wd c.rs G H → ArgsOk X.K G vs (as y) → Φ y post ep → (∀ G' H' v m, Gr c.rs G H G' H' → i.rp X.K G' v m → post m → Q v H') →
      (∀ G' H' cls d e, Gr c.rs G H G' H' → XRep X.K G' H' cls d e → ep e → E cls d H') → sp vs H Q E)
    (F : FnOk X.prog X.w X.K X.mg X.base (L2.CX X.prog X.w) k f fd ps sp) (hr : Room k X.A) (hm : X.mg x = some (.ref f)) (hk : PySem.W.keepIn X.K (.ref f) = true) (hb : Binds X.K fd ps []) (tk : Takes X c.wsh)
    (ha : JA X c (e :: es) ρ as t Φr) (hg : Gl X x := by rfl) (hdb : (x == ("__debug__" : Str)) = false := by decide) (he : starEach (e :: es) X.env = (false, eval e X.env) :: starEach es X.env := by rfl) (hpl : (backTo pos (starEach es X.env)).any (·.1) = false := by rfl) :
    JE X c (.Call (.Name x p) (e :: es) [] pos) ρ i (tCallS sp (fun σ => L2.WE c.wsh σ) t) (fun post ep => Φr (fun y => Φ y post ep) ep) := by
  refine ⟨pe_callS F hr hg hm hk hb (fun σ => passAt tk σ) ha.pe hdb he hpl, fun post ep φ G H σ w E Q k hx => ha.sem _ _ φ G H σ w E _ (fun G1 H1 vs y g1 r1 φ1 => ?_) hx⟩
  exact hsp G1 H1 vs y post ep _ _ g1.w r1 φ1 (fun G3 H3 z m g3 r3 p => k G3 H3 z m (g1.trans g3) r3 p) fun G3 H3 cls d e g3 r3 p => (hx.up g1) G3 H3 cls d e g3 r3 p
/-- a def that touches no resource -/
theorem e_call (F : FnOk X.prog X.w X.K X.mg X.base (L2.CX X.prog X.w) k f fd ps (spOf X.K rs0 as i Φ)) (hr : Room k X.A) (hm : X.mg x = some (.ref f)) (hk : PySem.W.keepIn X.K (.ref f) = true) (hb : Binds X.K fd ps []) (tk : Takes X c.wsh)
    (ha : JA X c (e :: es) ρ as t Φr) (hg : Gl X x := by rfl) (hdb : (x == ("__debug__" : Str)) = false := by decide) (he : starEach (e :: es) X.env = (false, eval e X.env) :: starEach es X.env := by rfl) (hpl : (backTo pos (starEach es X.env)).any (·.1) = false := by rfl) :
    JE X c (.Call (.Name x p) (e :: es) [] pos) ρ i (tCallS (spOf X.K rs0 as i Φ) (fun σ => L2.WE c.wsh σ) t) (fun post ep => Φr (fun y => Φ y post ep) ep) :=
  e_callG (fun G H vs y post ep Q E w a φ hq he => ⟨G, y, post, ep, w.to0, a, φ, fun G' H' v m g r p => hq G' H' v m (g.lift w) r p, fun G' H' cls d e g r p => he G' H' cls d e (g.lift w) r p⟩) F hr hm hk hb tk ha hg hdb he hpl
/-- a def that turns the resource at q -/
theorem e_callR {rs : Addr → Rs} {as : Addr → ι → List Sl} {q : Addr} (hc : c.rs = rs q) (F : FnOk X.prog X.w X.K X.mg X.base (L2.CX X.prog X.w) k f fd ps (spR X.K rs as i Φ)) (hr : Room k X.A) (hm : X.mg x = some (.ref f)) (hk : PySem.W.keepIn X.K (.ref f) = true) (hb : Binds X.K fd ps []) (tk : Takes X c.wsh)
    (ha : JA X c (e :: es) ρ (as q) t Φr) (hg : Gl X x := by rfl) (hdb : (x == ("__debug__" : Str)) = false := by decide) (he : starEach (e :: es) X.env = (false, eval e X.env) :: starEach es X.env := by rfl) (hpl : (backTo pos (starEach es X.env)).any (·.1) = false := by rfl) :
    JE X c (.Call (.Name x p) (e :: es) [] pos) ρ i (tCallS (spR X.K rs as i Φ) (fun σ => L2.WE c.wsh σ) t) (fun post ep => Φr (fun y => Φ y post ep) ep) :=
  e_callG (fun G H vs y post ep Q E w a φ hq he => ⟨q, G, y, post, ep, hc ▸ w, a, φ, fun G' H' v m g r p => hq G' H' v m (hc ▸ g) r p, fun G' H' cls d e g r p => he G' H' cls d e (hc ▸ g) r p⟩) F hr hm hk hb tk ha hg hdb he hpl
end
end Ty

set_option Elab.async false
set_option linter.all false
set_option maxRecDepth 100000
set_option maxHeartbeats 4000000
set_option autoImplicit false
/-! Ty, part C: statements, loops, comprehensions, defs -/
namespace Ty
open PySem PySem.Spec L2

/-! ### targets -/
structure JG (X : Cx) (tg : Expr) {α : Type} (i : Rp α) (g : TG) (js : List Nat) (f : α → List Sl → List Sl) : Prop where
  pe : PG X tg g
  sem : ∀ (rs : Rs) (H0 G H : Hp) (σ : L2.St) (ρ : List Sl) (v : V) (m : α), Wd rs G H → En X.K rs H0 G H σ ρ → i.rp X.K G v m → ∀ Q : L2.St → Hp → Prop,
    (∀ σ', En X.K rs H0 G H σ' (f m ρ) → (∀ vs : List Nat, (∀ j ∈ js, j ∈ vs) → wipe σ' vs = wipe σ vs) → Q σ' H) → g v σ H Q
theorem wipe_set {σ : L2.St} {j : Nat} {v : Option V} : ∀ {vs : List Nat}, j ∈ vs → wipe (σ.set j v) vs = wipe σ vs
  | [], h => by cases h
  | a :: vs, h => by
    unfold wipe
    by_cases e : j ∈ vs
    · rw [wipe_set e]
    · have ea : j = a := by
        rcases List.mem_cons.mp h with h | h
        · exact h
        · exact absurd h e
      subst ea
      have : ∀ (us : List Nat) (τ : L2.St), j ∉ us → wipe (τ.set j v) us = (wipe τ us).set j v := by
        intro us
        induction us with
        | nil => intro τ _; rfl
        | cons b us ih =>
          intro τ hb
          have h1 : j ≠ b := fun q => hb (q ▸ List.mem_cons_self)
          have h2 : j ∉ us := fun q => hb (List.mem_cons_of_mem _ q)
          show (wipe (τ.set j v) us).set b none = ((wipe τ us).set b none).set j v
          rw [ih τ h2, List.set_comm _ _ h1]
      rw [this vs σ e, List.set_set]
section
variable {X : Cx} {pos : Pos}
theorem g_name {α : Type} {i : Rp α} (j : Nat) {x : Str} (hN : X.N.Nodup) (hj : X.N[j]? = some x := by rfl) (hx : Loc X.env.scope x := by first | exact Or.inl rfl | exact Or.inr rfl) (hf : X.fn x = true ∨ X.env.scope.names.lookup x = some .local := by first | exact .inl rfl | exact .inr rfl) :
    JG X (.Name x pos) i (gName j) [j] (fun m ρ => ρ.set j (.val i m)) :=
  ⟨pg_name hN hj hx hf, fun rs H0 G H σ ρ v m w E r Q k => k _ (E.set (x := .val i m) ⟨v, rfl, r⟩ rfl) fun vs h => wipe_set (h j (List.mem_singleton.mpr rfl))⟩
theorem g_tup2 {α β : Type} {i : Rp α} {j : Rp β} {e1 e2 : Expr} {g1 g2 : TG} {j1 j2 : List Nat} {f1 : α → List Sl → List Sl} {f2 : β → List Sl → List Sl} {k0 : Nat} (hc : X.calm = true) (h1 : JG X e1 i g1 j1 f1) (h2 : JG X e2 j g2 j2 f2)
    (hs1 : (assignEach [e1, e2] X.env).map (·.2) = assign e1 X.env :: (assignEach [e2] X.env).map (·.2) := by rfl) (hs2 : (assignEach [e2] X.env).map (·.2) = assign e2 X.env :: (assignEach [] X.env).map (·.2) := by rfl)
    (hn : (assignEach [e1, e2] X.env).length = 2 := by rfl) (hst : (assignEach [e1, e2] X.env).findIdx? (·.1) = none := by rfl) :
    JG X (.Tuple [e1, e2] k0 pos) (rp2 (i := i) (j := j)) (gTup X.K 2 (gCons g1 (gCons g2 gNil))) (j1 ++ j2) (fun m ρ => f2 m.2 (f1 m.1 ρ)) := by
  refine ⟨pg_tup hc (pgs_cons h1.pe (pgs_cons h2.pe pgs_nil hs2) hs1) hn hst, fun rs H0 G H σ ρ v m w E r Q k => ?_⟩
  obtain ⟨a, x, y, rfl, h3, h4, h5⟩ := r
  refine ⟨a, [x, y], rfl, w.s.st h3, rfl, x, [y], rfl, h1.sem rs H0 G H σ ρ x m.1 w E h4 _ fun σ1 E1 w1 => ⟨y, [], rfl, h2.sem rs H0 G H σ1 _ y m.2 w E1 h5 _ fun σ2 E2 w2 => ⟨rfl, k σ2 E2 fun vs h => ?_⟩⟩⟩
  rw [w2 vs fun j hj => h j (List.mem_append_right _ hj), w1 vs fun j hj => h j (List.mem_append_left _ hj)]
end

/-! ### walks -/
structure WalkG (K : Fg) {α : Type} (i : Rp α) (J : It) (st : Hp → Prop) (xs : List α) : Prop where
  mono : ∀ G G', Ex G G' → st G → st G'
  go : ∃ (Gd : Hp → Prop) (Y : Nat → Hp → V → Hp → Prop), Walk J xs.length Gd Y ∧ (∀ G H, Ex G H → st G → Gd H) ∧
    ∀ (rs : Rs) (j : Nat) (m : α) (G H : Hp) (x : V) (H' : Hp), Wd rs G H → st G → xs[j]? = some m → Y j H x H' → ∃ G', Gr rs G H G' H' ∧ i.rp K G' x m
structure JI (X : Cx) (c : Cn) (tg iter : Expr) (ρ : List Sl) {α : Type} (i : Rp α) (wi : TI) (Φ : Pt (List α)) : Prop where
  pe : PI X tg iter wi
  sem : ∀ post ep, Φ post ep → ∀ G H σ, Wd c.rs G H → En X.K c.rs c.H0 G H σ ρ → ∀ R : It → Hp → Prop, (∀ G' H' J xs st, Gr c.rs G H G' H' → WalkG X.K i J st xs → st G' → post xs → R J H') → XOk X c G H σ ep → wi σ H R
def rangeI (lo : Int) (n : Nat) : List Int := (List.range n).map fun (k : Nat) => lo + (k : Int)
theorem walkG_list {K : Fg} {α : Type} {i : Rp α} {a : Addr} {vs : List V} {xs : List α} (hl : vs.length = xs.length) : WalkG K i (Itl K a) (fun G => G a = some (.lst vs) ∧ RpAll i K G vs xs) xs := by
  refine ⟨fun G G' e h => ⟨e _ _ h.1, h.2.mono e⟩, _, _, hl ▸ walk_list (K := K) (a := a) (xs := vs), fun G H e h => SqL.of (e _ _ h.1), fun rs j m G H x H' w h e y => ?_⟩
  obtain ⟨rfl, hx⟩ := y
  obtain ⟨v, h1, h2⟩ := h.2.get e
  rw [hx] at h1
  cases h1
  exact ⟨G, Gr.refl w, h2⟩
theorem walkG_tup {K : Fg} {α : Type} {i : Rp α} {a : Addr} {vs : List V} {xs : List α} (hl : vs.length = xs.length) : WalkG K i (Itt K a) (fun G => SqT K G a vs ∧ RpAll i K G vs xs) xs := by
  refine ⟨fun G G' e h => ⟨e.st h.1, h.2.mono e⟩, _, _, hl ▸ walk_tup (K := K) (a := a) (xs := vs), fun G H e h => e.st h.1, fun rs j m G H x H' w h e y => ?_⟩
  obtain ⟨rfl, hx⟩ := y
  obtain ⟨v, h1, h2⟩ := h.2.get e
  rw [hx] at h1
  cases h1
  exact ⟨G, Gr.refl w, h2⟩
theorem walkG_range {K : Fg} {lo : Int} {n : Nat} : WalkG K rpI (Itr lo n) (fun _ => True) (rangeI lo n) := by
  have hl : (rangeI lo n).length = n := by simp [rangeI]
  have hw : Walk (Itr lo n) (rangeI lo n).length (fun _ => True) (YFn fun i => .int (lo + i)) := by
    rw [hl]
    exact walk_range
  refine ⟨fun _ _ _ h => h, _, _, hw, fun _ _ _ _ => trivial, fun rs j m G H x H' w h e y => ?_⟩
  obtain ⟨rfl, hx⟩ := y
  refine ⟨G, Gr.refl w, ?_⟩
  have q : j < n := by
    have := (List.getElem?_eq_some_iff.mp e).1
    rw [hl] at this
    exact this
  unfold rangeI at e
  rw [List.getElem?_map, List.getElem?_range q] at e
  cases e
  exact hx
section
variable {X : Cx} {c : Cn} {ρ : List Sl} {α : Type} {i : Rp α} {tg e : Expr} {Φ : Pt (List α)} {te : TE} {t : TA}
theorem i_list (he : JE X c e ρ (rpL (i := i)) te Φ) (hs : PI X tg e (iList X.K te)) : JI X c tg e ρ i (iList X.K te) (fun post ep => Φ (fun xs => xs.length ≤ sizeLine → post xs) ep) := by
  refine ⟨hs, fun post ep φ G H σ w E R k hx => he.sem _ _ φ G H σ w E _ (fun G1 H1 v m g r p => ?_) hx⟩
  obtain ⟨a, vs, rfl, h1, h2, h3⟩ := r
  exact ⟨a, rfl, ⟨vs, SqL.of (g.w.s _ _ h1)⟩, k G1 H1 _ m _ g (walkG_list h2.length) ⟨h1, h2⟩ (p (h2.length ▸ h3))⟩
theorem i_tup {Φ : Pt (Tu α)} (he : JE X c e ρ (rpT (i := i)) te Φ) (hs : PI X tg e (iTup X.K te)) : JI X c tg e ρ i (iTup X.K te) (fun post ep => Φ (fun xs => xs.l.length ≤ sizeLine → post xs.l) ep) := by
  refine ⟨hs, fun post ep φ G H σ w E R k hx => he.sem _ _ φ G H σ w E _ (fun G1 H1 v m g r p => ?_) hx⟩
  obtain ⟨a, vs, rfl, h1, h2, h3⟩ := r
  exact ⟨a, rfl, ⟨vs, g.w.s.st h1⟩, k G1 H1 _ m.l _ g (walkG_tup h2.length) ⟨h1, h2⟩ (p (h2.length ▸ h3))⟩
theorem i_range1 {es : List Expr} {x : Str} {p pos : Pos} {Φ : Pt (Int × Unit)} (ha : JA X c es ρ (aCons rpI aNil) t Φ) (hs : PI X tg e (iRng1 t)) : JI X c tg e ρ rpI (iRng1 t) (fun post ep => Φ (fun n => (-(2 ^ 62) ≤ n.1 ∧ n.1 < 2 ^ 62) ∧ post (rangeI 0 n.1.toNat)) ep) := by
  refine ⟨hs, fun post ep φ G H σ w E R k hx => ha.sem _ _ φ G H σ w E _ (fun G1 H1 vs m g r p => ?_) hx⟩
  obtain ⟨v, rfl, rfl⟩ := one1 r
  exact ⟨m.1, rfl, p.1.1, p.1.2, k G1 H1 _ _ _ g walkG_range trivial p.2⟩
theorem i_range2 {es : List Expr} {x : Str} {p pos : Pos} {Φ : Pt (Int × Int × Unit)} (ha : JA X c es ρ (aCons rpI (aCons rpI aNil)) t Φ) (hs : PI X tg e (iRng2 t)) :
    JI X c tg e ρ rpI (iRng2 t) (fun post ep => Φ (fun n => (-(2 ^ 62) ≤ n.1 ∧ n.1 < 2 ^ 62 ∧ -(2 ^ 62) ≤ n.2.1 ∧ n.2.1 < 2 ^ 62) ∧ post (rangeI n.1 (n.2.1 - n.1).toNat)) ep) := by
  refine ⟨hs, fun post ep φ G H σ w E R k hx => ha.sem _ _ φ G H σ w E _ (fun G1 H1 vs m g r p => ?_) hx⟩
  obtain ⟨v, u, rfl, rfl, rfl⟩ := two2 r
  exact ⟨m.1, m.2.1, rfl, p.1, k G1 H1 _ _ _ g walkG_range trivial p.2⟩
end

/-! ### blocks -/
def seqP {S1 S L β : Type} (Φr : S1 → Pt (Out S L β)) (post : Out S L β → Prop) (ep : Exn → Prop) : Out S1 L β → Prop
  | .nx s => Φr s post ep
  | .rt b => post (.rt b)
  | .bk l => post (.bk l)
  | .ct l => post (.ct l)
def forP {α S β : Type} (Φb : α → S → Pt (Out S S β)) (fin : S → Prop) (rt : β → Prop) (ep : Exn → Prop) : List α → S → Prop
  | [], s => fin s
  | x :: r, s => Φb x s (fun
    | .nx s' => forP Φb fin rt ep r s'
    | .ct s' => forP Φb fin rt ep r s'
    | .bk s' => fin s'
    | .rt b => rt b) ep
section
variable {X : Cx} {c : Cn} {ρ : List Sl} {S L β α : Type} {out : S → List Sl} {lp : L → List Sl} {i : Rp β} {iα : Rp α} {pos : Pos} {rest : List Stmt} {tr : TS} {e : Expr} {te : TE} {Φe : Pt α}
theorem b_nil (s : S) (h : EnLe ρ (out s)) : JB X c [] ρ out lp i tNext (fun post _ => post (.nx s)) :=
  ⟨pss_nil, fun post ep φ G H σ g E D k hx => k.nx G H σ s g (Ex.refl _) (E.le h) φ⟩
theorem b_set [Nonempty α] (j : Nat) {x : Str} {px : Pos} {Φr : α → Pt (Out S L β)} (hN : X.N.Nodup) (he : JE X c e ρ iα te Φe) (hr : ∀ m, JB X c rest (ρ.set j (.val iα m)) out lp i tr (Φr m)) (hj : X.N[j]? = some x := by rfl) (hx : Loc X.env.scope x := by first | exact Or.inl rfl | exact Or.inr rfl)
    (hs : swapsWith e (some (.Name x px)) pos.line X.env = pure false := by rfl) (hf : X.fn x = true ∨ X.env.scope.names.lookup x = some .local := by first | exact .inl rfl | exact .inr rfl) :
    JB X c (.Assign [.Name x px] e pos :: rest) ρ out lp i (tSeq (tAsg te (gName j)) tr) (fun post ep => Φe (fun m => Φr m post ep) ep) := by
  refine ⟨pss_cons (ps_set hN hj hx he.pe hs hf) (hr (Classical.choice inferInstance)).pe, fun post ep φ G H σ g E D k hx => ?_⟩
  refine he.sem _ _ φ G H σ g.w E _ (fun G1 H1 v m g1 r p => ?_) (hx.at g)
  exact (hr m).sem _ _ p G1 H1 _ (g.trans g1) ((E.up g1).set (x := .val iα m) ⟨v, rfl, r⟩ rfl) D (k.up g1.g) hx
/-- .. of any target -/
theorem b_asg [Nonempty α] {tg : Expr} {gt : TG} {js : List Nat} {f : α → List Sl → List Sl} {Φr : α → Pt (Out S L β)} (he : JE X c e ρ iα te Φe) (hg : JG X tg iα gt js f) (hr : ∀ m, JB X c rest (f m ρ) out lp i tr (Φr m)) (hs : swapsWithSole [tg] e pos.line X.env = pure false := by rfl) (hw : swappedStores [tg] e X.env = pure none := by rfl)
    (h1 : (assignEach [tg] X.env).map (·.2) = [assign tg X.env] := by rfl) : JB X c (.Assign [tg] e pos :: rest) ρ out lp i (tSeq (tAsg te gt) tr) (fun post ep => Φe (fun m => Φr m post ep) ep) := by
  refine ⟨pss_cons (ps_asg he.pe hg.pe hs hw h1) (hr (Classical.choice inferInstance)).pe, fun post ep φ G H σ g E D k hx => ?_⟩
  refine he.sem _ _ φ G H σ g.w E _ (fun G1 H1 v m g1 r p => ?_) (hx.at g)
  exact hg.sem c.rs c.H0 G1 H1 σ ρ v m g1.w (E.up g1) r _ fun σ' E' _ => (hr m).sem _ _ p G1 H1 σ' (g.trans g1) E' D (k.up g1.g) hx
theorem b_ret {Φe : Pt β} (he : JE X c e ρ i te Φe) : JB X c (.Return (some e) pos :: rest) ρ out lp i (tSeq (tRet te) tNever) (fun post ep => Φe (fun m => post (.rt m)) ep) := by
  refine ⟨pss_cons (ps_ret he.pe) pss_never, fun post ep φ G H σ g E D k hx => ?_⟩
  exact he.sem _ _ φ G H σ g.w E _ (fun G1 H1 v m g1 r p => k.rt G1 H1 v m (g.trans g1) g1.g r p) (hx.at g)
theorem b_expr {Φr : Pt (Out S L β)} (he : JE X c e ρ iα te Φe) (hr : JB X c rest ρ out lp i tr Φr) (hs : swapsWith e none pos.line X.env = pure false := by rfl) : JB X c (.Expr e pos :: rest) ρ out lp i (tSeq (tDrop te) tr) (fun post ep => Φe (fun _ => Φr post ep) ep) := by
  refine ⟨pss_cons (ps_expr he.pe hs) hr.pe, fun post ep φ G H σ g E D k hx => ?_⟩
  exact he.sem _ _ φ G H σ g.w E _ (fun G1 H1 v m g1 r p => hr.sem _ _ p G1 H1 σ (g.trans g1) (E.up g1) D (k.up g1.g) hx) (hx.at g)
theorem b_pass {Φr : Pt (Out S L β)} (hr : JB X c rest ρ out lp i tr Φr) : JB X c (.Pass pos :: rest) ρ out lp i (tSeq tNext tr) Φr :=
  ⟨pss_cons ps_pass hr.pe, fun post ep φ G H σ g E D k hx => hr.sem _ _ φ G H σ g E D k hx⟩
theorem b_brk (l : L) (h : EnLe ρ (lp l)) : JB X c (.Break pos :: rest) ρ out lp i (tSeq tBreak tNever) (fun post _ => post (.bk l)) :=
  ⟨pss_cons ps_break pss_never, fun post ep φ G H σ g E D k hx => k.bk G H σ l g (Ex.refl _) (E.le h) φ⟩
theorem b_cont (l : L) (h : EnLe ρ (lp l)) : JB X c (.Continue pos :: rest) ρ out lp i (tSeq tCont tNever) (fun post _ => post (.ct l)) :=
  ⟨pss_cons ps_continue pss_never, fun post ep φ G H σ g E D k hx => k.ct G H σ l g (Ex.refl _) (E.le h) φ⟩
theorem b_never : JB X c rest ρ out lp i tNever (fun _ _ => False) := ⟨pss_never, fun post ep φ G H σ g E D k hx => φ⟩
theorem b_if [Nonempty α] {t : Expr} {b1 b2 : List Stmt} {tt : TT} {t1 t2 : TS} {Φt : Pt Bool} {Φ1 Φ2 : Pt (Out α L β)} {Φr : α → Pt (Out S L β)} {mid : α → List Sl} (ht : JT X c t ρ tt Φt) (h1 : JB X c b1 ρ mid lp i t1 Φ1) (h2 : JB X c b2 ρ mid lp i t2 Φ2) (hr : ∀ s, JB X c rest (mid s) out lp i tr (Φr s)) :
    JB X c (.If t b1 b2 pos :: rest) ρ out lp i (tSeq (tIfS tt t1 t2) tr) (fun post ep => Φt (fun k => if k = true then Φ1 (seqP Φr post ep) ep else Φ2 (seqP Φr post ep) ep) ep) := by
  refine ⟨pss_cons (ps_if ht.pe h1.pe h2.pe) (hr (Classical.choice inferInstance)).pe, fun post ep φ G H σ g E D k hx => ?_⟩
  refine ht.sem _ _ φ G H σ g.w E _ (fun G1 H1 m g1 p => ?_) (hx.at g)
  have k := k.up g1.g
  have ends : EndsOk X c G1 i mid lp (seqP Φr post ep) { D with nx := tr D } :=
    ⟨fun G' H' σ' s g' x' E' p' => (hr s).sem _ _ p' G' H' σ' g' E' D (k.up x') hx, fun G' H' v b g' x' r p' => k.rt G' H' v b g' x' r p', fun G' H' σ' l g' x' E' p' => k.bk G' H' σ' l g' x' E' p', fun G' H' σ' l g' x' E' p' => k.ct G' H' σ' l g' x' E' p'⟩
  cases m with
  | true => exact h1.sem _ _ p G1 H1 σ (g.trans g1) (E.up g1) _ ends hx
  | false => exact h2.sem _ _ p G1 H1 σ (g.trans g1) (E.up g1) _ ends hx
/-- an if that is the last statement of its block -/
theorem b_ifE {t : Expr} {b1 b2 : List Stmt} {tt : TT} {t1 t2 : TS} {Φt : Pt Bool} {Φ1 Φ2 : Pt (Out S L β)} (ht : JT X c t ρ tt Φt) (h1 : JB X c b1 ρ out lp i t1 Φ1) (h2 : JB X c b2 ρ out lp i t2 Φ2) :
    JB X c [.If t b1 b2 pos] ρ out lp i (tIfS tt t1 t2) (fun post ep => Φt (fun k => if k = true then Φ1 post ep else Φ2 post ep) ep) := by
  refine ⟨pss_one (ps_if ht.pe h1.pe h2.pe), fun post ep φ G H σ g E D k hx => ?_⟩
  refine ht.sem _ _ φ G H σ g.w E _ (fun G1 H1 m g1 p => ?_) (hx.at g)
  cases m with
  | true => exact h1.sem _ _ p G1 H1 σ (g.trans g1) (E.up g1) _ (k.up g1.g) hx
  | false => exact h2.sem _ _ p G1 H1 σ (g.trans g1) (E.up g1) _ (k.up g1.g) hx
theorem b_for [Nonempty α] {T : Type} {tg iter : Expr} {wi : TI} {gt : TG} {js : List Nat} {f : α → List Sl → List Sl} {body : List Stmt} {tb : TS} {Φi : Pt (List α)} {Φb : α → T → Pt (Out T T β)} {Φr : T → Pt (Out S L β)} {lpS : T → List Sl}
    (s0 : T) (h0 : EnLe ρ (lpS s0)) (hp : PassesOwn (model X.prog X.w) X.A X.env X.xe) (hc : X.calm = true) (hi : JI X c tg iter ρ iα wi Φi) (hg : JG X tg iα gt js f) (hb : ∀ m s, JB X c body (f m (lpS s)) lpS lpS i tb (Φb m s)) (hr : ∀ s, JB X c rest (lpS s) out lp i tr (Φr s))
    (hfs : ∀ x : Value, foldedSetIterable iter X.env x = pure x := by intro _; rfl) :
    JB X c (.For tg iter body [] pos :: rest) ρ out lp i (tSeq (tFor wi gt tb) tr) (fun post ep => Φi (fun xs => forP Φb (fun s => Φr s post ep) (fun b => post (.rt b)) ep xs s0) ep) := by
  refine ⟨pss_cons (ps_for hp hc hi.pe hg.pe (hb (Classical.choice inferInstance) s0).pe hfs) (hr s0).pe, fun post ep φ G H σ g E D k hx => ?_⟩
  refine hi.sem _ _ φ G H σ g.w E _ (fun G1 H1 J xs st g1 wg hst p => ?_) (hx.at g)
  obtain ⟨Gd, Y, wk, hGd, hY⟩ := wg.go
  have k := k.up g1.g
  refine for_it wk (fun n σ' H' => ∃ (G' : Hp) (s : T), Gr c.rs c.G0 c.H0 G' H' ∧ En X.K c.rs c.H0 G' H' σ' (lpS s) ∧ Ex G1 G' ∧ forP Φb (fun s => Φr s post ep) (fun b => post (.rt b)) ep (xs.drop n) s) ⟨G1, s0, g.trans g1, (E.up g1).le h0, Ex.refl _, p⟩ ?_ ?_ ?_
  · rintro n σ' H' _ ⟨G', s, g', E', x', _⟩
    exact hGd G' H' g'.w.s (wg.mono _ _ x' hst)
  · rintro n x σ' H' H'' hn ⟨G', s, g', E', x', p'⟩ y
    have em : xs[n]? = some xs[n] := List.getElem?_eq_getElem hn
    obtain ⟨G2, g2, r2⟩ := hY c.rs n _ G' H' x H'' g'.w (wg.mono _ _ x' hst) em y
    rw [List.drop_eq_getElem_cons hn] at p'
    have x2 := x'.trans g2.g
    refine hg.sem c.rs c.H0 G2 H'' σ' (lpS s) x _ g2.w (E'.up g2) r2 _ fun σ3 E3 _ => (hb xs[n] s).sem _ _ p' G2 H'' σ3 (g'.trans g2) E3 _ ⟨?_, ?_, ?_, ?_⟩ hx
    · exact fun G4 H4 σ4 s4 g4 x4 E4 p4 => ⟨G4, s4, g4, E4, x2.trans x4, p4⟩
    · exact fun G4 H4 v b g4 x4 r p4 => k.rt G4 H4 v b g4 (x2.trans x4) r p4
    · exact fun G4 H4 σ4 s4 g4 x4 E4 p4 => (hr s4).sem _ _ p4 G4 H4 σ4 g4 E4 D (k.up (x2.trans x4)) hx
    · exact fun G4 H4 σ4 s4 g4 x4 E4 p4 => ⟨G4, s4, g4, E4, x2.trans x4, p4⟩
  · rintro σ' H' ⟨G', s, g', E', x', p'⟩
    rw [List.drop_length] at p'
    exact (hr s).sem _ _ p' G' H' σ' g' E' D (k.up x') hx
end
end Ty

set_option Elab.async false
set_option linter.all false
set_option maxRecDepth 100000
set_option maxHeartbeats 4000000
set_option autoImplicit false
/-! Ty, part D: comprehensions, own lists, defs, instances -/
namespace Ty
open PySem PySem.Spec L2

/-- an own object is known for good from now on -/
theorem gr_frz {rs : Rs} {G0 H0 G H : Hp} {l : Addr} {o : HO} (g : Gr rs G0 H0 G H) (h0 : H0 l = none) (hg : G l = none) (hs : ¬ rs.S H l) (hl : H l = some o) : Gr rs G0 H0 (upd G l o) H := by
  refine ⟨g.g.trans (Ex.new hg), g.h, g.t, fun a ha q => ?_, g.f, ⟨fun a u q => ?_, g.w.i, fun a ha => ?_⟩⟩
  · rw [upd_ne fun (z : a = l) => ha (by rw [z]; exact h0)]
    exact g.n a ha q
  · by_cases z : a = l
    · subst z
      rw [upd_same] at q
      rw [← q]
      exact hl
    · rw [upd_ne z] at q
      exact g.w.s a u q
  · rw [upd_ne fun (z : a = l) => hs (by rw [← z]; exact ha)]
    exact g.w.n a ha
theorem not_new {rs : Rs} {G H : Hp} {p : Addr} {o : HO} (w : Wd rs G H) (hp : H p = none) : ¬ rs.S (upd H p o) p := fun z => by
  have e : ∀ a, rs.S H a → upd H p o a = H a := fun a ha => upd_ne fun q => rs.trk w.i ha (q ▸ hp)
  exact rs.trk w.i (((rs.loc w.i e).2 p).mp z) hp

/-! ### comprehensions -/
def lcP {α β : Type} (Φt : α → Pt Bool) (Φe : α → Pt β) (post : List β → Prop) : List α → List β → Prop
  | [], acc => post acc
  | x :: r, acc => Φt x (fun k => if k = true then Φe x (fun y => lcP Φt Φe post r (acc ++ [y])) (fun _ => False) else lcP Φt Φe post r acc) (fun _ => False)
def wipeS (ρ : List Sl) : List Nat → List Sl
  | [] => ρ
  | v :: vs => (wipeS ρ vs).set v .no
theorem En.unset {K : Fg} {rs : Rs} {H0 G H : Hp} {σ : L2.St} {ρ : List Sl} {j : Nat} (h : En K rs H0 G H σ ρ) : En K rs H0 G H (σ.set j none) (ρ.set j .no) := by
  refine ⟨by simp [h.len], fun i y e => ?_, fun i k y z l ne e1 e2 o1 o2 s1 s2 => ?_⟩
  · rcases get_set e with ⟨rfl, rfl, z⟩ | ⟨q, e⟩
    · trivial
    · rw [List.getElem?_set_ne q]
      exact h.ok i y e
  · rcases get_set e1 with ⟨_, rfl, _⟩ | ⟨q1, e1⟩
    · cases o1
    rcases get_set e2 with ⟨_, rfl, _⟩ | ⟨q2, e2⟩
    · cases o2
    rw [List.getElem?_set_ne q1] at s1
    rw [List.getElem?_set_ne q2] at s2
    exact h.sep i k y z l ne e1 e2 o1 o2 s1 s2
theorem En.wipe {K : Fg} {rs : Rs} {H0 G H : Hp} {σ : L2.St} {ρ : List Sl} (h : En K rs H0 G H σ ρ) : ∀ vs : List Nat, En K rs H0 G H (L2.wipe σ vs) (wipeS ρ vs)
  | [] => h
  | v :: vs => (En.wipe h vs).unset
/-- the tests of a comprehension -/
structure JTs (X : Cx) (c : Cn) (ifs : List Expr) (ρ : List Sl) (t : TT) (Φ : Pt Bool) : Prop where
  pe : PTs X ifs t
  sem : ∀ post ep, Φ post ep → ∀ G H σ, Wd c.rs G H → En X.K c.rs c.H0 G H σ ρ → ∀ Q : Bool → Hp → Prop, (∀ G' H' m, Gr c.rs G H G' H' → post m → Q m H') → XOk X c G H σ ep → t σ H Q
theorem ts_nil {X : Cx} {c : Cn} {ρ : List Sl} : JTs X c [] ρ tYes (fun post _ => post true) := ⟨pts_nil, fun post ep φ G H σ w E Q k hx => k G H true (Gr.refl w) φ⟩
theorem ts_one {X : Cx} {c : Cn} {ρ : List Sl} {e : Expr} {t : TT} {Φ : Pt Bool} (h : JT X c e ρ t Φ) : JTs X c [e] ρ t Φ := ⟨pts_one h.pe, h.sem⟩
/-- no exception leaves -/
abbrev Cn.nox (c : Cn) : Cn := ⟨c.rs, c.G0, c.H0, fun _ _ _ _ => False⟩
section
variable {X : Cx} {c : Cn} {ρ ρw : List Sl} {α β : Type} [Nonempty α] {iα : Rp α} {iβ : Rp β} {elt tg iter : Expr} {ifs : List Expr} {scope : Scope} {own : List (Str × Nat)} {pos : Pos} {wi : TI} {g : TG} {js : List Nat} {f : α → List Sl → List Sl} {tt : TT} {te : TE}
  {Φi : Pt (List α)} {Φt : α → Pt Bool} {Φe : α → Pt β}
theorem lc_sem (hjs : ∀ j ∈ js, j ∈ own.map (·.2)) (hw : wipeS ρ (own.map (·.2)) = ρw)
    (hi : JI X c tg iter ρ iα wi Φi) (hg : ∀ (rs : Rs) (H0 G H : Hp) (σ : L2.St) (ρ : List Sl) (v : V) (m : α), Wd rs G H → En X.K rs H0 G H σ ρ → iα.rp X.K G v m → ∀ Q : L2.St → Hp → Prop,
      (∀ σ', En X.K rs H0 G H σ' (f m ρ) → (∀ vs : List Nat, (∀ j ∈ js, j ∈ vs) → wipe σ' vs = wipe σ vs) → Q σ' H) → g v σ H Q)
    (ht : ∀ m post ep, Φt m post ep → ∀ G H σ, Wd c.rs G H → En X.K c.rs c.H0 G H σ (f m ρw) → ∀ Q : Bool → Hp → Prop, (∀ G' H' m, Gr c.rs G H G' H' → post m → Q m H') → XOk X c.nox G H σ ep → tt σ H Q)
    (he : ∀ m post ep, Φe m post ep → ∀ G H σ, Wd c.rs G H → En X.K c.rs c.H0 G H σ (f m ρw) → ∀ Q : VK, (∀ G' H' v m, Gr c.rs G H G' H' → iβ.rp X.K G' v m → post m → Q v H') → XOk X c.nox G H σ ep → te σ H Q)
    (post : List β → Prop) (ep : Exn → Prop) (φ : Φi (fun xs => xs.length ≤ sizeLine ∧ lcP Φt Φe post xs []) ep) (G H : Hp) (σ : L2.St) (w : Wd c.rs G H) (E : En X.K c.rs c.H0 G H σ ρ) (Q : VK)
    (k : ∀ G' H' l vs m, Gr c.rs G H G' H' → H' l = some (.lst vs) → RpAll iβ X.K G' vs m → vs.length ≤ sizeLine → H l = none → G' l = none → ¬ c.rs.S H' l → post m → Q (.ref l) H') (hx : XOk X c G H σ ep) : tLc wi g tt te (own.map (·.2)) σ H Q := by
  refine hi.sem _ _ φ G H σ w E _ (fun G1 H1 J xs st g1 wg hst p => ?_) hx
  obtain ⟨hz, p⟩ := p
  obtain ⟨Gd, Y, wk, hGd, hY⟩ := wg.go
  intro D hD
  have hHD : H D = none := by
    by_cases q : H D = none
    · exact q
    · exact absurd hD (g1.t D q)
  have gD : G1 D = none := by
    by_cases q : G1 D = none
    · exact q
    · cases e : G1 D with
      | none => exact absurd e q
      | some u =>
        have := g1.w.s D u e
        rw [hD] at this
        cases this
  have xo : ∀ (G' H' : Hp) (σ' : L2.St), XOk X c.nox G' H' σ' (fun _ => False) := fun _ _ _ _ _ _ _ _ _ _ z => z.elim
  refine lc_it wk (fun n H' => ∃ (G' : Hp) (vs : List V) (acc : List β), Gr c.rs G1 H1 G' H' ∧ H' D = some (.lst vs) ∧ RpAll iβ X.K G' vs acc ∧ vs.length ≤ n ∧ G' D = none ∧ ¬ c.rs.S H' D ∧ lcP Φt Φe post (xs.drop n) acc) ?_ ?_ ?_ ?_
  · exact ⟨G1, [], [], gr_newH g1.w hD, upd_same, .nil, Nat.le_refl _, gD, not_new g1.w hD, p⟩
  · rintro n H' _ ⟨G', vs, acc, g', _⟩
    exact hGd G' H' g'.w.s (wg.mono _ _ g'.g hst)
  · rintro n x H' H'' hn ⟨G', vs, acc, g', hd, hr, hl, hgD, hsD, p'⟩ y
    have em : xs[n]? = some xs[n] := List.getElem?_eq_getElem hn
    obtain ⟨G2, g2, r2⟩ := hY c.rs n _ G' H' x H'' g'.w (wg.mono _ _ g'.g hst) em y
    rw [List.drop_eq_getElem_cons hn] at p'
    have E2 : En X.K c.rs c.H0 G2 H'' (L2.wipe σ (own.map (·.2))) ρw := hw ▸ ((((E.up g1).up g').up g2)).wipe _
    refine hg c.rs c.H0 G2 H'' _ ρw x _ g2.w E2 r2 _ fun σ3 E3 w3 => ⟨?_, ?_⟩
    · rw [w3 _ hjs]
      have : ∀ (us : List Nat) (τ : L2.St), wipe (wipe τ us) us = wipe τ us := by
        intro us
        have key : ∀ (vs : List Nat) (τ : L2.St) (j : Nat), j ∈ vs → (wipe τ vs).set j none = wipe τ vs := by
          intro vs
          induction vs with
          | nil => intro τ j h; cases h
          | cons b vs ih =>
            intro τ j h
            show ((wipe τ vs).set b none).set j none = (wipe τ vs).set b none
            by_cases e : j = b
            · subst e
              rw [List.set_set]
            · have hj : j ∈ vs := by
                rcases List.mem_cons.mp h with h | h
                · exact absurd h e
                · exact h
              rw [List.set_comm _ _ (fun q => e q.symm), ih τ j hj]
        have sub : ∀ (as bs : List Nat) (τ : L2.St), (∀ j ∈ as, j ∈ bs) → wipe (wipe τ bs) as = wipe τ bs := by
          intro as
          induction as with
          | nil => intro bs τ _; rfl
          | cons a as ih =>
            intro bs τ h
            show (wipe (wipe τ bs) as).set a none = wipe τ bs
            rw [ih bs τ fun j hj => h j (List.mem_cons_of_mem _ hj)]
            exact key bs τ a (h a List.mem_cons_self)
        exact fun τ => sub us us τ fun j hj => hj
      exact this _ _
    · have g3 := g'.trans g2
      have keep : ∀ {Ga Ha Gb Hb : Hp}, Gr c.rs Ga Ha Gb Hb → Ha D = some (.lst vs) → Ga D = none → ¬ c.rs.S Ha D → Hb D = some (.lst vs) ∧ Gb D = none ∧ ¬ c.rs.S Hb D := fun {Ga Ha Gb Hb} gg h1 h2 h3 => by
        refine ⟨gg.h D _ h3 h1, gg.n D (some_ne h1) h2, fun z => ?_⟩
        rcases gg.f D z with q | q
        · exact h3 q
        · rw [q] at h1
          cases h1
      obtain ⟨d1, d2, d3⟩ := keep g2 hd hgD hsD
      refine ht _ _ _ p' G2 H'' σ3 g2.w E3 _ (fun G4 H4 m g4 p4 => ?_) (xo _ _ _)
      obtain ⟨e1, e2, e3⟩ := keep g4 d1 d2 d3
      have g34 := g3.trans g4
      cases m with
      | false => exact ⟨G4, vs, acc, g34, e1, hr.mono (g2.g.trans g4.g), Nat.le_succ_of_le hl, e2, e3, p4⟩
      | true =>
        refine he _ _ _ p4 G4 H4 σ3 g4.w (E3.up g4) _ (fun G5 H5 v m g5 r5 p5 => ?_) (xo _ _ _)
        obtain ⟨f1, f2, f3⟩ := keep g5 e1 e2 e3
        have g345 := g34.trans g5
        have hlt : vs.length < sizeLine := by omega
        refine ⟨vs, f1, hlt, G5, vs ++ [v], acc ++ [m], gr_mut g345 hD f2 f3 (some_ne f1), upd_same, (hr.mono ((g2.g.trans g4.g).trans g5.g)).append (.cons r5 .nil), ?_, f2, ?_, p5⟩
        · rw [List.length_append, List.length_singleton]
          omega
        · intro z
          have e : ∀ a, c.rs.S H5 a → upd H5 D (.lst (vs ++ [v])) a = H5 a := fun a ha => upd_ne fun q => f3 (q ▸ ha)
          exact f3 (((c.rs.loc g5.w.i e).2 D).mp z)
  · rintro H' ⟨G', vs, acc, g', hd, hr, hl, hgD, hsD, p'⟩
    rw [List.drop_length] at p'
    exact k G' H' D vs acc (g1.trans g') hd hr (by omega) hHD hgD hsD p'
theorem e_lc (hc : X.calm = true) (hN : X.N.Nodup) (ok : BlkOk X.N X.env.scope scope own) (hjs : ∀ j ∈ js, j ∈ own.map (·.2)) (hw : wipeS ρ (own.map (·.2)) = ρw) (hi : JI X c tg iter ρ iα wi Φi)
    (hg : ∀ (s : Shared) (H : Hp) (C : Addr) (cl : List (Str × Addr)) (fp : List Addr), JG (X.blk s H scope (compEnvC scope cl C X.env) fp) tg iα g js f)
    (ht : ∀ (s : Shared) (H : Hp) (C : Addr) (cl : List (Str × Addr)) (fp : List Addr) (m : α), JTs (X.blk s H scope (compEnvC scope cl C X.env) fp) c.nox ifs (f m ρw) tt (Φt m))
    (he : ∀ (s : Shared) (H : Hp) (C : Addr) (cl : List (Str × Addr)) (fp : List Addr) (m : α), JE (X.blk s H scope (compEnvC scope cl C X.env) fp) c.nox elt (f m ρw) iβ te (Φe m)) (hs : ∀ x : Value, foldedSetIterable iter X.env x = pure x := by intro _; rfl) :
    JE X c (.ListComp elt [⟨tg, iter, ifs, 0⟩] scope pos) ρ (rpL (i := iβ)) (tLc wi g tt te (own.map (·.2))) (fun post ep => Φi (fun xs => xs.length ≤ sizeLine ∧ lcP Φt Φe post xs []) ep) := by
  have m0 : α := Classical.choice inferInstance
  refine ⟨pe_lc hc hN hi.pe ok (fun s H C cl fp => (hg s H C cl fp).pe) (fun s H C cl fp => (ht s H C cl fp m0).pe) (fun s H C cl fp => (he s H C cl fp m0).pe) hs, fun post ep φ G H σ w E Q k hx => ?_⟩
  refine lc_sem hjs hw hi (hg X.s_0 X.H_0 0 [] []).sem (fun m => (ht X.s_0 X.H_0 0 [] [] m).sem) (fun m => (he X.s_0 X.H_0 0 [] [] m).sem) post ep φ G H σ w E Q (fun G' H' l vs m g h1 h2 h3 h4 h5 h6 p => ?_) hx
  have gf := gr_frz g h4 h5 h6 h1
  exact k _ _ _ _ gf ⟨l, vs, rfl, upd_same, h2.mono (Ex.new h5), h3⟩ p
/-- name = [..] on one line -/
theorem b_setLc {S L γ : Type} {out : S → List Sl} {lp : L → List Sl} {iγ : Rp γ} {rest : List Stmt} {tr : TS} {spos : Pos} {y : Str} {py : Pos} {Φr : List β → Pt (Out S L γ)} (j : Nat) (hc : X.calm = true) (hN : X.N.Nodup) (ok : BlkOk X.N X.env.scope scope own) (hjs : ∀ j ∈ js, j ∈ own.map (·.2)) (hw : wipeS ρ (own.map (·.2)) = ρw) (hi : JI X c tg iter ρ iα wi Φi)
    (hg : ∀ (s : Shared) (H : Hp) (C : Addr) (cl : List (Str × Addr)) (fp : List Addr), JG (X.blk s H scope (compEnvC scope cl C X.env) fp) tg iα g js f)
    (ht : ∀ (s : Shared) (H : Hp) (C : Addr) (cl : List (Str × Addr)) (fp : List Addr) (m : α), JTs (X.blk s H scope (compEnvC scope cl C X.env) fp) c.nox ifs (f m ρw) tt (Φt m))
    (he : ∀ (s : Shared) (H : Hp) (C : Addr) (cl : List (Str × Addr)) (fp : List Addr) (m : α), JE (X.blk s H scope (compEnvC scope cl C X.env) fp) c.nox elt (f m ρw) iβ te (Φe m))
    (hr : ∀ m, JB X c rest (ρ.set j (.val (rpL (i := iβ)) m)) out lp iγ tr (Φr m)) (hj : X.N[j]? = some y := by rfl) (hyl : X.env.scope.names.lookup y = some .local := by rfl)
    (hsw : swapsWith (.ListComp elt [⟨tg, iter, ifs, 0⟩] scope pos) (some (.Name y py)) spos.line X.env = pure true := by exact sw_true rfl rfl rfl (by decide +kernel)) (hs : ∀ x : Value, foldedSetIterable iter X.env x = pure x := by intro _; rfl) :
    JB X c (.Assign [.Name y py] (.ListComp elt [⟨tg, iter, ifs, 0⟩] scope pos) spos :: rest) ρ out lp iγ (tSeq (tAsg (tLc wi g tt te (own.map (·.2))) (gName j)) tr)
      (fun post ep => Φi (fun xs => xs.length ≤ sizeLine ∧ lcP Φt Φe (fun m => Φr m post ep) xs []) ep) := by
  have m0 : α := Classical.choice inferInstance
  refine ⟨pss_cons (ps_setLc hc hN hj hyl hsw hi.pe ok (fun s H C cl fp => (hg s H C cl fp).pe) (fun s H C cl fp => (ht s H C cl fp m0).pe) (fun s H C cl fp => (he s H C cl fp m0).pe) hs) (hr []).pe, fun post ep φ G H σ gg E D k hx => ?_⟩
  show tLc wi g tt te (own.map (·.2)) σ H fun x H1 => gName j x σ H1 (fun σ' H' => tr D σ' H')
  refine lc_sem hjs hw hi (hg X.s_0 X.H_0 0 [] []).sem (fun m => (ht X.s_0 X.H_0 0 [] [] m).sem) (fun m => (he X.s_0 X.H_0 0 [] [] m).sem) (fun m => Φr m post ep) ep φ G H σ gg.w E _ (fun G' H' l vs m g h1 h2 h3 h4 h5 h6 p => ?_) (hx.at gg)
  have gf := gr_frz g h4 h5 h6 h1
  exact (hr m).sem _ _ p _ _ _ (gg.trans gf) ((E.up gf).set (x := .val (rpL (i := iβ)) m) ⟨_, rfl, l, vs, rfl, upd_same, h2.mono (Ex.new h5), h3⟩ rfl) D (k.up gf.g) hx
end

/-! ### own lists -/
theorem En.setOwn {K : Fg} {rs : Rs} {H0 G H : Hp} {σ : L2.St} {ρ : List Sl} {j : Nat} {l : Addr} {x : Sl} (h : En K rs H0 G H σ ρ) (hx : SlOk K rs H0 G H (some (some (.ref l))) x)
    (hn : ∀ (k : Nat) (y : Sl), k ≠ j → ρ[k]? = some y → y.own = true → σ[k]? ≠ some (some (.ref l))) : En K rs H0 G H (σ.set j (some (.ref l))) (ρ.set j x) := by
  refine ⟨by simp [h.len], fun i y e => ?_, fun i k y z q ne e1 e2 o1 o2 s1 s2 => ?_⟩
  · rcases get_set e with ⟨rfl, rfl, z⟩ | ⟨q, e⟩
    · rw [List.getElem?_set_self (by rw [h.len]; exact z)]
      exact hx
    · rw [List.getElem?_set_ne q]
      exact h.ok i y e
  · rcases get_set e1 with ⟨rfl, rfl, z1⟩ | ⟨q1, e1⟩
    · rcases get_set e2 with ⟨rfl, _, _⟩ | ⟨q2, e2⟩
      · exact ne rfl
      · rw [List.getElem?_set_self (by rw [h.len]; exact z1)] at s1
        rw [List.getElem?_set_ne q2] at s2
        cases s1
        exact hn k z (fun e => q2 e.symm) e2 o2 s2
    · rw [List.getElem?_set_ne q1] at s1
      have e1' : ρ[i]? = some y := by assumption
      rcases get_set e2 with ⟨hjk, hzx, z2⟩ | ⟨q2, e2⟩
      · rw [← hjk, List.getElem?_set_self (by rw [h.len]; exact z2)] at s2
        cases s2
        exact hn i y (fun e => q1 e.symm) e1' o1 s1
      · rw [List.getElem?_set_ne q2] at s2
        exact h.sep i k y z q ne e1' e2 o1 o2 s1 s2
theorem En.own_some {K : Fg} {rs : Rs} {H0 G H : Hp} {σ : L2.St} {ρ : List Sl} (h : En K rs H0 G H σ ρ) {k : Nat} {y : Sl} {l : Addr} (e : ρ[k]? = some y) (o : y.own = true) (s : σ[k]? = some (some (.ref l))) : H l ≠ none := by
  have q := h.ok k y e
  cases y with
  | no => cases o
  | val i m => cases o
  | rf a => cases o
  | ml i xs =>
    obtain ⟨l', vs, h1, h2, _⟩ := q
    rw [s] at h1
    cases h1
    exact some_ne h2
  | md i xs =>
    obtain ⟨l', vs, h1, h2, _⟩ := q
    rw [s] at h1
    cases h1
    exact some_ne h2
  | oi l' C fs =>
    obtain ⟨dx, vs, h1, h2, _⟩ := q
    rw [s] at h1
    cases h1
    exact some_ne h2
/-- an own object is changed: the others stay -/
theorem En.mut {K : Fg} {rs : Rs} {H0 G H : Hp} {σ : L2.St} {ρ : List Sl} {j : Nat} {l : Addr} {x0 x : Sl} {o : HO} (h : En K rs H0 G H σ ρ) (w : Wd rs G H) (hj : ρ[j]? = some x0) (ho : x0.own = true) (hs : σ[j]? = some (some (.ref l))) (hl : H l = some o) (ns : ¬ rs.S H l) (no : ∀ a, o ≠ .own a) {o' : HO}
    (hx : SlOk K rs H0 G (upd H l o') (some (some (.ref l))) x) : En K rs H0 G (upd H l o') σ (ρ.set j x) := by
  have es : ∀ a, rs.S H a → upd H l o' a = H a := fun a ha => upd_ne fun z => ns (z ▸ ha)
  have S' := (rs.loc w.i es).2
  refine ⟨by simp [h.len], fun i y e => ?_, fun i k y z q ne e1 e2 o1 o2 s1 s2 => ?_⟩
  · rcases get_set e with ⟨rfl, rfl, z⟩ | ⟨q, e⟩
    · rw [hs]
      exact hx
    · have p := h.ok i y e
      cases y with
      | no => trivial
      | val i m => exact p
      | rf a => exact p
      | ml ii xs =>
        obtain ⟨l', vs, h1, h2, h3, h4, h5, h6⟩ := p
        have ne : l' ≠ l := fun z => h.sep j i _ _ l q hj e ho rfl hs (z ▸ h1)
        exact ⟨l', vs, h1, by rw [upd_ne ne]; exact h2, h3, h4, h5, fun z => h6 ((S' l').mp z)⟩
      | md ii xs =>
        obtain ⟨l', vs, h1, h2, h3, h4, h5, h6⟩ := p
        have ne : l' ≠ l := fun z => h.sep j i _ _ l q hj e ho rfl hs (z ▸ h1)
        exact ⟨l', vs, h1, by rw [upd_ne ne]; exact h2, h3, h4, h5, fun z => h6 ((S' l').mp z)⟩
      | oi l' C fs =>
        obtain ⟨dx, vs, h1, h2, h3, h4, h5, h6, h7, h8, h9, h10⟩ := p
        have ne : l' ≠ l := fun z => h.sep j i _ _ l q hj e ho rfl hs (z ▸ h1)
        have nd : dx ≠ l := fun z => by
          rw [z, hl] at h7
          exact no _ (Option.some.inj h7)
        exact ⟨dx, vs, h1, by rw [upd_ne ne]; exact h2, h3, h4, h5, fun z => h6 ((S' l').mp z), by rw [upd_ne nd]; exact h7, h8, h9, fun z => h10 ((S' dx).mp z)⟩
  · have back : ∀ {a : Nat} {b : Sl}, (ρ.set j x)[a]? = some b → b.own = true → ∃ b', ρ[a]? = some b' ∧ b'.own = true := fun {a b} e ob => by
      rcases get_set e with ⟨rfl, rfl, _⟩ | ⟨_, e⟩
      · exact ⟨_, hj, ho⟩
      · exact ⟨_, e, ob⟩
    obtain ⟨y', e1', o1'⟩ := back e1 o1
    obtain ⟨z', e2', o2'⟩ := back e2 o2
    exact h.sep i k _ _ q ne e1' e2' o1' o2' s1 s2
section
variable {X : Cx} {c : Cn} {ρ : List Sl} {S L β α : Type} {out : S → List Sl} {lp : L → List Sl} {i : Rp β} {iα : Rp α} {pos : Pos} {rest : List Stmt} {tr : TS} {e : Expr} {te : TE} {Φe : Pt α}
/-- x = [] -/
theorem b_new (iα : Rp α) (j : Nat) {x : Str} {px p1 : Pos} {Φr : Pt (Out S L β)} (hN : X.N.Nodup) (hr : JB X c rest (ρ.set j (.ml iα [])) out lp i tr Φr) (hj : X.N[j]? = some x := by rfl) (hx : Loc X.env.scope x := by first | exact Or.inl rfl | exact Or.inr rfl)
    (hs : swapsWith (.List [] p1) (some (.Name x px)) pos.line X.env = pure false := by rfl) (hf : X.fn x = true ∨ X.env.scope.names.lookup x = some .local := by first | exact .inl rfl | exact .inr rfl) :
    JB X c (.Assign [.Name x px] (.List [] p1) pos :: rest) ρ out lp i (tSeq (tAsg (tLst tNil) (gName j)) tr) Φr := by
  refine ⟨pss_cons (ps_set hN hj hx (pe_lst pa_nil) hs hf) hr.pe, fun post ep φ G H σ g E D k hx => ?_⟩
  refine ⟨Nat.zero_le _, fun p hp => ?_⟩
  have gn := gr_newH (o := .lst []) g.w hp
  have h0 : c.H0 p = none := by
    by_cases q : c.H0 p = none
    · exact q
    · exact absurd hp (g.t p q)
  have hg : G p = none := by
    cases e : G p with
    | none => rfl
    | some u =>
      have := g.w.s p u e
      rw [hp] at this
      cases this
  refine hr.sem _ _ φ G _ _ (g.trans gn) ((E.up gn).setOwn (x := .ml iα []) ⟨p, [], rfl, upd_same, .nil, h0, hg, not_new g.w hp⟩ fun q y _ ey oy sy => ?_) D k hx
  exact absurd hp (E.own_some ey oy sy)
/-- x.append(e) -/
theorem b_app {xs : List α} (j : Nat) {x : Str} {px pa pc : Pos} {Φr : α → Pt (Out S L β)} (hρ : ρ[j]? = some (.ml iα xs)) [Nonempty α] (he : JE X c e ρ iα te Φe) (hr : ∀ m, JB X c rest (ρ.set j (.ml iα (xs ++ [m]))) out lp i tr (Φr m))
    (hpe : PE X (.Call (.Attribute (.Name x px) "append" pa) [e] [] pc) (tBM X.K "list" rAppend (tVar j) (tCons te tNil))) (hs : swapsWith (.Call (.Attribute (.Name x px) "append" pa) [e] [] pc) none pos.line X.env = pure false := by rfl) :
    JB X c (.Expr (.Call (.Attribute (.Name x px) "append" pa) [e] [] pc) pos :: rest) ρ out lp i (tSeq (tDrop (tBM X.K "list" rAppend (tVar j) (tCons te tNil))) tr) (fun post ep => Φe (fun m => xs.length < sizeLine ∧ Φr m post ep) ep) := by
  refine ⟨pss_cons (ps_expr hpe hs) (hr (Classical.choice inferInstance)).pe, fun post ep φ G H σ g E D k hx => ?_⟩
  obtain ⟨l, vs, h1, h2, h3, h4, h5, h6⟩ := E.ok j _ hρ
  refine ⟨.ref l, h1, .inl ⟨rfl, vs, SqL.of h2⟩, ?_⟩
  refine he.sem _ _ φ G H σ g.w E _ (fun G1 H1 v m g1 r p => ?_) (hx.at g)
  obtain ⟨l', vs', h1', h2', h3', h4', h5', h6'⟩ := (E.up g1).ok j _ hρ
  rw [h1] at h1'
  cases h1'
  have hlen := h3'.length
  refine ⟨l, vs', v, rfl, rfl, h2', by rw [hlen]; exact p.1, ?_⟩
  have gm := gr_mut (o := .lst (vs' ++ [v])) (g.trans g1) h4' h5' h6' (some_ne h2')
  have es : ∀ a, c.rs.S H1 a → upd H1 l (.lst (vs' ++ [v])) a = H1 a := fun a ha => upd_ne fun z => h6' (z ▸ ha)
  refine (hr m).sem _ _ p.2 G1 _ σ gm ((E.up g1).mut g1.w hρ rfl h1 h2' h6' (fun a z => by cases z) (x := .ml iα (xs ++ [m])) ⟨l, vs' ++ [v], rfl, upd_same, h3'.append (.cons r .nil), h4', h5', fun z => h6' (((c.rs.loc g1.w.i es).2 l).mp z)⟩) D (k.up g1.g) hx
/-- an own list is known for good from here on -/
theorem b_frz {xs : List α} (j : Nat) {Φr : Pt (Out S L β)} (hρ : ρ[j]? = some (.ml iα xs)) (hr : JB X c rest (ρ.set j (.val (rpL (i := iα)) xs)) out lp i tr Φr) : JB X c rest ρ out lp i tr (fun post ep => xs.length ≤ sizeLine ∧ Φr post ep) := by
  refine ⟨hr.pe, fun post ep φ G H σ g E D k hx => ?_⟩
  obtain ⟨l, vs, h1, h2, h3, h4, h5, h6⟩ := E.ok j _ hρ
  have hlen := h3.length
  have gf := gr_frz g h4 h5 h6 h2
  have E' : En X.K c.rs c.H0 (upd G l (.lst vs)) H σ (ρ.set j (.val (rpL (i := iα)) xs)) := by
    refine ⟨by simp [E.len], fun q y e => ?_, fun q r y z b ne e1 e2 o1 o2 s1 s2 => ?_⟩
    · rcases get_set e with ⟨rfl, rfl, z⟩ | ⟨qq, e⟩
      · exact ⟨.ref l, h1, l, vs, rfl, upd_same, h3.mono (Ex.new h5), by rw [hlen]; exact φ.1⟩
      · have p := E.ok q y e
        cases y with
        | no => trivial
        | val ii m =>
          obtain ⟨v, p1, p2⟩ := p
          exact ⟨v, p1, Rp.mono (Ex.new h5) p2⟩
        | rf a => exact p
        | ml ii ys =>
          obtain ⟨l', vs', q1, q2, q3, q4, q5, q6⟩ := p
          have ne : l' ≠ l := fun z => E.sep j q _ _ l qq hρ e rfl rfl h1 (z ▸ q1)
          exact ⟨l', vs', q1, q2, q3.mono (Ex.new h5), q4, by rw [upd_ne ne]; exact q5, q6⟩
        | md ii ys =>
          obtain ⟨l', vs', q1, q2, q3, q4, q5, q6⟩ := p
          have ne : l' ≠ l := fun z => E.sep j q _ _ l qq hρ e rfl rfl h1 (z ▸ q1)
          exact ⟨l', vs', q1, q2, q3.mono (Ex.new h5), q4, by rw [upd_ne ne]; exact q5, q6⟩
        | oi l' C fs =>
          obtain ⟨dx, vs', q1, q2, q3, q4, q5, q6, q7, q8, q9, q10⟩ := p
          have ne : l' ≠ l := fun z => E.sep j q _ _ l qq hρ e rfl rfl h1 (z ▸ q1)
          have nd : dx ≠ l := fun z => by
            rw [z, h2] at q7
            cases q7
          exact ⟨dx, vs', q1, q2, q3.mono (Ex.new h5), q4, by rw [upd_ne ne]; exact q5, q6, q7, q8, by rw [upd_ne nd]; exact q9, q10⟩
    · rcases get_set e1 with ⟨_, rfl, _⟩ | ⟨q1, e1⟩
      · cases o1
      rcases get_set e2 with ⟨_, rfl, _⟩ | ⟨q2, e2⟩
      · cases o2
      exact E.sep q r y z b ne e1 e2 o1 o2 s1 s2
  exact hr.sem _ _ φ.2 _ H σ gf E' D (k.up (Ex.new h5)) hx
end
end Ty

set_option Elab.async false
set_option linter.all false
set_option maxRecDepth 100000
set_option maxHeartbeats 4000000
set_option autoImplicit false
/-! Ty, part E: defs, instances, own operators -/
namespace Ty
open PySem PySem.Spec PyProof.Rows L2

theorem en_no : ∀ ρ : List Sl, EnLe ρ (List.replicate ρ.length .no)
  | [] => .nil
  | x :: r => .cons (.no x) (en_no r)
theorem en_args {K : Fg} {rs : Rs} {H0 G H : Hp} : ∀ {vs : List V} {as : List Sl}, ArgsOk K G vs as → ∀ (n : Nat), En K rs H0 G H (vs.map some ++ List.replicate n none) (as ++ List.replicate n .no) := by
  intro vs as h n
  have len := h.len
  have noOwn : ∀ (i : Nat) (x : Sl), (as ++ List.replicate n Sl.no)[i]? = some x → x.own = false := by
    intro i x e
    have all : ∀ (vs : List V) (as : List Sl), ArgsOk K G vs as → ∀ x ∈ as, x.own = false := by
      intro vs as h
      induction h with
      | nil => intro x hx; cases hx
      | cons h _ ih =>
        intro x hx
        rcases List.mem_cons.mp hx with rfl | hx
        · cases h <;> rfl
        · exact ih x hx
    rcases List.mem_append.mp (List.mem_of_getElem? e) with q | q
    · exact all vs as h x q
    · rw [List.eq_of_mem_replicate q]
      rfl
  refine ⟨by simp [len], fun i x e => ?_, fun i j x y l ne e1 e2 o1 o2 s1 s2 => ?_⟩
  · have get : ∀ (vs : List V) (as : List Sl), ArgsOk K G vs as → ∀ (i : Nat) (x : Sl), as[i]? = some x → ∃ v, vs[i]? = some v ∧ ArgOk K G v x := by
      intro vs as h
      induction h with
      | nil => intro i x e; simp at e
      | cons h _ ih =>
        intro i x e
        cases i with
        | zero =>
          simp at e
          subst e
          exact ⟨_, rfl, h⟩
        | succ i =>
          obtain ⟨v, h1, h2⟩ := ih i x (by simpa using e)
          exact ⟨v, by simpa using h1, h2⟩
    by_cases hi : i < as.length
    · rw [List.getElem?_append_left hi] at e
      obtain ⟨v, h1, h2⟩ := get vs as h i x e
      have hs : (vs.map some ++ List.replicate n none)[i]? = some (some v) := by
        rw [List.getElem?_append_left (by simpa [len] using hi), List.getElem?_map, h1]
        rfl
      rw [hs]
      cases h2 with
      | val h2 => exact ⟨v, rfl, h2⟩
      | rf => rfl
    · rw [List.getElem?_append_right (by omega)] at e
      rw [List.eq_of_mem_replicate (List.mem_of_getElem? e)]
      trivial
  · rw [noOwn i x e1] at o1
    cases o1

/-! ### THE RULE for a def -/
section
variable {P : Program} {w : World} {K : Fg} {mg : Str → Option Value} {base : Heap} {x qual : Str} {params : Arguments} {body : List Stmt} {scope : Scope} {f : Addr} {fd : FuncData} {N ps : List Str} {k : Nat} {ι β : Type} {i : Rp β}
abbrev Cf (P : Program) (w : World) (K : Fg) (mg : Str → Option Value) (base : Heap) (N : List Str) (qual : Str) (scope : Scope) (f : Addr) (cdv : Value) (A : Around) (outer : List Env) (s : Shared) (H : Hp) (E : XK) : Cx := cxOf (L2.CX P w) P w K mg base N qual scope f cdv A outer s H E
abbrev Cc (rs : Rs) (G H : Hp) (E : XK) : Cn := ⟨rs, G, H, fun cls d _ H' => E cls d H'⟩
/-- what is wanted of a body's ends -/
def endP {S L β : Type} (fall : Prop) (post : β → Prop) : Out S L β → Prop
  | .rt b => post b
  | .nx _ => fall
  | _ => False
theorem fn_core {dvs : List V} {kws : List (Str × V)} (F : FunD K x qual params body scope dvs kws f fd) (S : FnScope N ps scope) {Lx : Type} {lp : Lx → List Sl} {sp : Sp} (fall : (β → Prop) → Prop) (hfall : ∀ (post : β → Prop) G v, fall post → v = V.non → ∃ m, i.rp K G v m ∧ post m)
    (hsp : ∀ vs H Q E, sp vs H Q E → ∃ (rs : Rs) (as : List Sl) (G : Hp) (Φ : Pt β) (post : β → Prop) (ep : Exn → Prop), Wd rs G H ∧ ArgsOk K G vs as ∧ Φ post ep ∧ (∀ G' H' v m, Gr rs G H G' H' → i.rp K G' v m → post m → Q v H') ∧ (∀ G' H' cls d e, Gr rs G H G' H' → XRep K G' H' cls d e → ep e → E cls d H') ∧ as.length = ps.length ∧
      ∀ (cdv : Value) (A : Around) (outer : List Env) (s : Shared), Room k (A.deeper (envOfC qual scope s.heap.objs.size f cdv)) → ∃ tb Φb, JB (Cf P w K mg base N qual scope f cdv A outer s H E) (Cc rs G H E) body (as ++ List.replicate (N.length - ps.length) .no) (fun _ : Unit => List.replicate N.length .no) lp i tb Φb ∧ (∀ post ep, Φ post ep → Φb (endP (fall post) post) ep)) :
    FnOk P w K mg base (L2.CX P w) (k + 1) f fd ps sp := by
  refine F.ok S (fun vs H Q E h => ?_) (fun cdv A outer s H vs Q E hr h => ?_)
  · obtain ⟨rs, as, G, Φ, post, ep, _, ha, _, _, _, hl, _⟩ := hsp vs H Q E h
    exact ha.len.trans hl
  · obtain ⟨rs, as, G, Φ, post, ep, wd, ha, φ, hq, hx, hl, hb⟩ := hsp vs H Q E h
    obtain ⟨tb, Φb, J, hΦ⟩ := hb cdv A outer s hr
    refine ⟨tb, J.pe, J.sem _ _ (hΦ post ep φ) G H _ (Gr.refl wd) ?_ _ ⟨?_, ?_, ?_, ?_⟩ ?_⟩
    · have e := en_args (rs := rs) (H0 := H) (H := H) ha (N.length - ps.length)
      unfold L2.start
      rw [show N.length - vs.length = N.length - ps.length by rw [ha.len, hl]]
      exact e
    · intro G' H' σ' s' g _ _ p
      obtain ⟨m, r, pm⟩ := hfall post G' V.non p rfl
      exact hq G' H' _ m g r pm
    · exact fun G' H' v b g _ r p => hq G' H' v b g r p
    · exact fun G' H' σ' l g _ _ p => p.elim
    · exact fun G' H' σ' l g _ _ p => p.elim
    · exact fun G' H' σ' cls d e g r p => hx G' H' cls d e g r p
/-- a def without a resource -/
theorem fn_ok {dvs : List V} {kws : List (Str × V)} (F : FunD K x qual params body scope dvs kws f fd) (S : FnScope N ps scope) {as : ι → List Sl} {Φ : ι → Pt β} {Φb : ι → Pt (Out Unit Empty β)} (hl : ∀ y, (as y).length = ps.length)
    (hb : ∀ (y : ι) (cdv : Value) (A : Around) (outer : List Env) (s : Shared) (H G : Hp) (E : XK), Room k (A.deeper (envOfC qual scope s.heap.objs.size f cdv)) →
      ∃ tb, JB (Cf P w K mg base N qual scope f cdv A outer s H E) (Cc rs0 G H E) body (as y ++ List.replicate (N.length - ps.length) .no) (fun _ : Unit => List.replicate N.length .no) (fun z : Empty => nomatch z) i tb (Φb y))
    (hΦ : ∀ y post ep, Φ y post ep → Φb y (endP False post) ep) : FnOk P w K mg base (L2.CX P w) (k + 1) f fd ps (spOf K rs0 as i Φ) := by
  refine fn_core (i := i) (lp := fun z : Empty => nomatch z) F S (fun _ => False) (fun _ _ _ h => h.elim) fun vs H Q E h => ?_
  obtain ⟨G, y, post, ep, wd, ha, φ, hq, hx⟩ := h
  refine ⟨rs0, as y, G, Φ y, post, ep, wd, ha, φ, hq, hx, hl y, fun cdv A outer s hr => ?_⟩
  obtain ⟨tb, J⟩ := hb y cdv A outer s H G E hr
  exact ⟨tb, _, J, hΦ y⟩
/-- a def that hands back None -/
theorem fn_okU {dvs : List V} {kws : List (Str × V)} (F : FunD K x qual params body scope dvs kws f fd) (S : FnScope N ps scope) {as : ι → List Sl} {Φ : ι → Pt Unit} {Φb : ι → Pt (Out Unit Empty Unit)} (hl : ∀ y, (as y).length = ps.length)
    (hb : ∀ (y : ι) (cdv : Value) (A : Around) (outer : List Env) (s : Shared) (H G : Hp) (E : XK), Room k (A.deeper (envOfC qual scope s.heap.objs.size f cdv)) →
      ∃ tb, JB (Cf P w K mg base N qual scope f cdv A outer s H E) (Cc rs0 G H E) body (as y ++ List.replicate (N.length - ps.length) .no) (fun _ : Unit => List.replicate N.length .no) (fun z : Empty => nomatch z) rpN tb (Φb y))
    (hΦ : ∀ y post ep, Φ y post ep → Φb y (endP (post ()) post) ep) : FnOk P w K mg base (L2.CX P w) (k + 1) f fd ps (spOf K rs0 as rpN Φ) := by
  refine fn_core (i := rpN) (lp := fun z : Empty => nomatch z) F S (fun post => post ()) (fun _ _ _ h e => ⟨(), e, h⟩) fun vs H Q E h => ?_
  obtain ⟨G, y, post, ep, wd, ha, φ, hq, hx⟩ := h
  refine ⟨rs0, as y, G, Φ y, post, ep, wd, ha, φ, hq, hx, hl y, fun cdv A outer s hr => ?_⟩
  obtain ⟨tb, J⟩ := hb y cdv A outer s H G E hr
  exact ⟨tb, _, J, hΦ y⟩
/-- a def that turns a resource -/
theorem fn_okR {dvs : List V} {kws : List (Str × V)} (F : FunD K x qual params body scope dvs kws f fd) (S : FnScope N ps scope) {rs : Addr → Rs} {as : Addr → ι → List Sl} {Φ : ι → Pt β} {Φb : ι → Pt (Out Unit Empty β)} (hl : ∀ q y, (as q y).length = ps.length)
    (hb : ∀ (q : Addr) (y : ι) (cdv : Value) (A : Around) (outer : List Env) (s : Shared) (H G : Hp) (E : XK), Room k (A.deeper (envOfC qual scope s.heap.objs.size f cdv)) →
      ∃ tb, JB (Cf P w K mg base N qual scope f cdv A outer s H E) (Cc (rs q) G H E) body (as q y ++ List.replicate (N.length - ps.length) .no) (fun _ : Unit => List.replicate N.length .no) (fun z : Empty => nomatch z) i tb (Φb y))
    (hΦ : ∀ y post ep, Φ y post ep → Φb y (endP False post) ep) : FnOk P w K mg base (L2.CX P w) (k + 1) f fd ps (spR K rs as i Φ) := by
  refine fn_core (i := i) (lp := fun z : Empty => nomatch z) F S (fun _ => False) (fun _ _ _ h => h.elim) fun vs H Q E h => ?_
  obtain ⟨q, G, y, post, ep, wd, ha, φ, hq, hx⟩ := h
  refine ⟨rs q, as q y, G, Φ y, post, ep, wd, ha, φ, hq, hx, hl q y, fun cdv A outer s hr => ?_⟩
  obtain ⟨tb, J⟩ := hb q y cdv A outer s H G E hr
  exact ⟨tb, _, J, hΦ y⟩
end

/-! ### instances -/
/-- reading a field -/
def FldW (K : Fg) {α β : Type} (iα : Rp α) (f : Str) (iβ : Rp β) (get : α → β) : Prop :=
  ∀ (G : Hp) (v : V) (m : α), iα.rp K G v m → ∃ a C dx fs u, v = .ref a ∧ G a = some (.ins C dx fs) ∧ Cls K C ∧ NoAttr K C f ∧ fs.lookup f = some u ∧ iβ.rp K G u (get m)
section
variable {X : Cx} {c : Cn} {ρ : List Sl} {α β : Type} {iα : Rp α} {iβ : Rp β} {e : Expr} {te : TE} {Φe : Pt α} {pos : Pos} {f : Str} {get : α → β}
theorem e_fld (hf : FldW X.K iα f iβ get) (he : JE X c e ρ iα te Φe) (hb : attributeBase e f X.env (eval e X.env) = eval e X.env := by rfl) : JE X c (.Attribute e f pos) ρ iβ (tFld X.K te f) (fun post ep => Φe (fun m => post (get m)) ep) := by
  refine ⟨pe_fld he.pe hb, fun post ep φ G H σ w E Q k hx => he.sem _ _ φ G H σ w E _ (fun G1 H1 v m g r p => ?_) hx⟩
  obtain ⟨a, C, dx, fs, u, rfl, h1, h2, h3, h4, h5⟩ := hf G1 v m r
  exact ⟨a, C, dx, fs, u, rfl, g.w.s _ _ h1, h2, h3, h4, k G1 H1 u _ g h5 p⟩
end
/-- what an __init__ promises: the new instance at x, then the arguments -/
def spI (K : Fg) (C : Addr) {ι δ : Type} (as : ι → List Sl) (i : Rp δ) (Φ : ι → Pt δ) : Sp := fun vs H Q E =>
  ∃ (G Hb : Hp) (x dx : Addr) (us : List V) (y : ι) (post : δ → Prop) (ep : Exn → Prop), vs = .ref x :: us ∧ H = upd (upd Hb dx (.own x)) x (.ins C dx []) ∧ Hb x = none ∧ Hb dx = none ∧ dx ≠ x ∧ Wd rs0 G Hb ∧ ArgsOk K G us (as y) ∧ Φ y post ep ∧
    (∀ G' H' m, Gr rs0 G Hb G' H' → i.rp K G' (.ref x) m → post m → Q .non H') ∧ ∀ G' H' cls d e, Gr rs0 G Hb G' H' → XRep K G' H' cls d e → ep e → E cls d H'
def tMakeS (C : Addr) (sp : Sp) (E : L2.St → XK) (t : TA) : TE := fun σ H Q => t σ H fun vs H1 => ∀ x dx, H1 x = none → H1 dx = none → dx ≠ x → sp (.ref x :: vs) (upd (upd H1 dx (.own x)) x (.ins C dx [])) (fun v H2 => v = .non ∧ Q (.ref x) H2) (E σ)
section
variable {X : Cx} {CX : CXT} {k : Nat} {f C : Addr} {fd : FuncData} {ps : List Str} {sp : Sp} {E : L2.St → XK} {x : Str} {p pos : Pos} {e : Expr} {es : List Expr} {t : TA}
theorem run_makeS {pins : List (Addr × Obj)} {σ : L2.St} {H : Hp} {s : Shared} {Q : VK} {us : List Value} {vs : List V} (M : Mk X.K C f) (F : FnOk X.prog X.w X.K X.mg X.base CX k f fd ps sp) (hr : Room (k + 1) X.A) (hb : Binds X.K fd ps [])
    (hx : PassesAt CX X σ (E σ)) (I : Inv X pins σ H s) (r : Vals vs us)
    (h : ∀ x dx, H x = none → H dx = none → dx ≠ x → sp (.ref x :: vs) (upd (upd H dx (.own x)) x (.ins C dx [])) (fun v H2 => v = .non ∧ Q (.ref x) H2) (E σ)) :
    wpAny (model X.prog X.w) X.A (call (.ref C) us) (EP X pins σ Q) X.xe s := by
  have hq := h (s.heap.objs.size + 1) s.heap.objs.size (I.hok.fresh (Nat.le_succ _)) (I.hok.fresh (Nat.le_refl _)) (Nat.ne_of_lt (Nat.lt_succ_self _))
  have I2 := Inv.made (C := C) I
  have r2 : Vals (V.ref (s.heap.objs.size + 1) :: vs) (Value.ref (s.heap.objs.size + 1) :: us) := .cons rfl r
  have hl : (Value.ref (s.heap.objs.size + 1) :: us ++ []).length = ps.length := by
    have e := r2.length
    rw [F.len _ _ _ _ hq] at e
    rw [List.append_nil]
    exact e.symm
  refine wpAny_call (make_map (f := f) I.kIn M.makes M.init (beq_iff_eq.mp M.fn) (codeAny_mono (F.run _ X.stack _ _ ⟨Value.ref (s.heap.objs.size + 1) :: us, []⟩ (Value.ref (s.heap.objs.size + 1) :: us) _ _ (E σ) (hr.make C us [])
    (I2.env0.make C us []) (by have := hb _ (Value.ref (s.heap.objs.size + 1) :: us) I2.kIn hl; rw [List.append_nil] at this; exact this) r2 hq) fun r s' hq' => ?_))
  cases r with
  | error e => exact hx pins _ _ e s' I2 hq'
  | ok fl =>
    cases fl with
    | ret u =>
      obtain ⟨v, H', I3, rv, ev, q3⟩ := I2.after hq'
      subst ev
      exact ⟨rv, ⟨V.ref (s.heap.objs.size + 1), H', I3, rfl, q3⟩⟩
    | next => exact False.elim hq'
    | brk => exact False.elim hq'
    | cont => exact False.elim hq'
theorem pe_makeS (M : Mk X.K C f) (F : FnOk X.prog X.w X.K X.mg X.base CX k f fd ps sp) (hr : Room (k + 1) X.A) (hm : X.mg x = some (.ref C)) (hb : Binds X.K fd ps []) (hx : ∀ σ, PassesAt CX X σ (E σ))
    (ha : PA X (e :: es) t) (hg : Gl X x := by rfl) (hdb : (x == ("__debug__" : Str)) = false := by decide) (he : starEach (e :: es) X.env = (false, eval e X.env) :: starEach es X.env := by rfl) (hpl : (backTo pos (starEach es X.env)).any (·.1) = false := by rfl) :
    PE X (.Call (.Name x p) (e :: es) [] pos) (tMakeS C sp E t) := by
  refine ⟨fun pins s σ H Q I h => ?_⟩
  refine wpAny_Call_Name_kw (ld_glob I hg hm ?_ hdb)
  refine PySem.W.callWith_K (h₀ := X.base) I.ok.mod.kin M.kp (thn (ha.run pos pins s σ H _ I h) fun us s1 ⟨vs, H1, I1, r, q⟩ => ⟨I1.kIn, ?_⟩) he hpl
  exact run_makeS M F hr hb (hx σ) I1 r q
variable {c : Cn} {ρ : List Sl} {δ ι : Type} {i : Rp δ} {as : ι → List Sl} {Φr : Pt ι} {Φ : ι → Pt δ}
theorem e_make (M : Mk X.K C f) (F : FnOk X.prog X.w X.K X.mg X.base (L2.CX X.prog X.w) k f fd ps (spI X.K C as i Φ)) (hr : Room (k + 1) X.A) (hm : X.mg x = some (.ref C)) (hb : Binds X.K fd ps []) (tk : Takes X c.wsh)
    (ha : JA X c (e :: es) ρ as t Φr) (hg : Gl X x := by rfl) (hdb : (x == ("__debug__" : Str)) = false := by decide) (he : starEach (e :: es) X.env = (false, eval e X.env) :: starEach es X.env := by rfl) (hpl : (backTo pos (starEach es X.env)).any (·.1) = false := by rfl) :
    JE X c (.Call (.Name x p) (e :: es) [] pos) ρ i (tMakeS C (spI X.K C as i Φ) (fun σ => L2.WE c.wsh σ) t) (fun post ep => Φr (fun y => Φ y post ep) ep) := by
  refine ⟨pe_makeS M F hr hm hb (fun σ => passAt tk σ) ha.pe hg hdb he hpl, fun post ep φ G H σ w E Q k hx => ha.sem _ _ φ G H σ w E _ (fun G1 H1 vs y g1 r1 φ1 => ?_) hx⟩
  intro q dx h1 h2 h3
  refine ⟨G1, H1, q, dx, vs, y, post, ep, rfl, rfl, h1, h2, h3, g1.w.to0, r1, φ1, fun G' H' m g r p => ⟨rfl, ?_⟩, fun G' H' cls d e g r p => ?_⟩
  · exact k G' H' _ m (g1.trans (g.lift g1.w)) r p
  · exact hx G' H' cls d e (g1.trans (g.lift g1.w)) r p
end
/-! ### an __init__ -/
abbrev Fp := Fg → Hp → V → Prop
/-- a field that holds m -/
def fld {α : Type} (i : Rp α) (m : α) : Fp := fun K G v => i.rp K G v m
theorem FlAll.names {K : Fg} {G : Hp} {vs : List (Str × V)} {ps : List (Str × Fp)} (h : FlAll K G vs ps) : vs.map (·.1) = ps.map (·.1) := by
  induction h with
  | nil => rfl
  | cons _ _ ih => rw [List.map_cons, List.map_cons, ih]
theorem putF_new {f : Str} {v : V} : ∀ {vs : List (Str × V)}, ¬ f ∈ vs.map (·.1) → putF f v vs = vs ++ [(f, v)]
  | [], _ => rfl
  | (g, x) :: r, h => by
    have h1 : ¬ g = f := fun e => h (by rw [← e]; exact List.mem_cons_self)
    have h2 : ¬ f ∈ r.map (·.1) := fun m => h (List.mem_cons_of_mem _ m)
    show (if g = f then (g, v) :: r else (g, x) :: putF f v r) = _
    rw [if_neg h1, putF_new h2]
    rfl
theorem FlAll.snoc {K : Fg} {G : Hp} {vs : List (Str × V)} {ps : List (Str × Fp)} {f : Str} {v : V} {p : Fp} (h : FlAll K G vs ps) (hp : ∀ G', Ex G G' → p K G' v) : FlAll K G (vs ++ [(f, v)]) (ps ++ [(f, p)]) := by
  induction h with
  | nil => exact .cons hp .nil
  | cons h _ ih => exact .cons h ih
theorem FlAll.at {K : Fg} {G : Hp} {f : Str} {p : Fp} : ∀ {vs : List (Str × V)} {ps : List (Str × Fp)} {pre post : List (Str × Fp)}, FlAll K G vs ps → ps = pre ++ (f, p) :: post → ¬ f ∈ pre.map (·.1) → ∃ v, vs.lookup f = some v ∧ p K G v
  | _, _, [], post, h, e, _ => by
    cases h with
    | nil => cases e
    | cons h t =>
      injection e with e1 e2
      injection e1 with e3 e4
      subst e3
      subst e4
      exact ⟨_, by simp [List.lookup], h _ (Ex.refl _)⟩
  | _, _, (g, q) :: pre, post, h, e, hn => by
    cases h with
    | nil => cases e
    | @cons f' v' p' vs' ps' h t =>
      have e2 : ps' = pre ++ (f, p) :: post := (List.cons.inj e).2
      have e3 : f' = g := congrArg Prod.fst (List.cons.inj e).1
      have h1 : ¬ f = f' := fun z => hn (by rw [z, e3]; exact List.mem_cons_self)
      obtain ⟨v, h2, h3⟩ := FlAll.at t e2 fun m => hn (List.mem_cons_of_mem _ m)
      refine ⟨v, ?_, h3⟩
      have hb : (f == f') = false := beq_eq_false_iff_ne.mpr h1
      show (match f == f' with | true => some v' | false => List.lookup f vs') = some v
      rw [hb]
      exact h2
section
variable {X : Cx} {c : Cn} {ρ : List Sl} {S L β α : Type} {out : S → List Sl} {lp : L → List Sl} {i : Rp β} {iα : Rp α} {pos : Pos} {rest : List Stmt} {tr : TS} {e : Expr} {te : TE} {Φe : Pt α}
/-- self.f = e, a new field -/
theorem b_fld [Nonempty α] {C : Addr} {fs : List (Str × Fp)} (j : Nat) {x f : Str} {px pa : Pos} {Φr : α → Pt (Out S L β)} {l : Addr} (hρ : ρ[j]? = some (.oi l C fs)) (hC : Cls X.K C) (hA : NoAttr X.K C f) (hn : ¬ f ∈ fs.map (·.1)) (hz : fs.length < 1000) (he : JE X c e ρ iα te Φe)
    (hr : ∀ m, JB X c rest (ρ.set j (.oi l C (fs ++ [(f, fld iα m)]))) out lp i tr (Φr m)) (hN : X.N[j]? = some x := by rfl) (hv : Vis X.env.scope x := by first | exact Or.inl rfl | exact Or.inr (Or.inl rfl) | exact Or.inr (Or.inr rfl)) (hd : (x == ("__debug__" : Str)) = false := by decide) (hcd : (x == ("__classdict__" : Str)) = false := by decide)
    (hs : swapsWith e (some (.Attribute (.Name x px) f pa)) pos.line X.env = pure false := by rfl) :
    JB X c (.Assign [.Attribute (.Name x px) f pa] e pos :: rest) ρ out lp i (tSeq (sFld X.K (tVar j) te f) tr) (fun post ep => Φe (fun m => Φr m post ep) ep) := by
  refine ⟨pss_cons (ps_fld (pe_var hN hv hd hcd) he.pe hs) (hr (Classical.choice inferInstance)).pe, fun post ep φ G H σ g E D k hx => ?_⟩
  refine he.sem _ _ φ G H σ g.w E _ (fun G1 H1 v m g1 r p => ?_) (hx.at g)
  obtain ⟨dx, vs, h1, h2, h3, h4, h5, h6, h7, h8, h9, h10⟩ := (E.up g1).ok j _ hρ
  have nm := h3.names
  have hnv : ¬ f ∈ vs.map (·.1) := by rw [nm]; exact hn
  have hlen : vs.length < 1000 := by
    have := congrArg List.length nm
    simp at this
    omega
  refine ⟨.ref l, h1, l, C, dx, vs, rfl, h2, hC, hA, hlen, ?_⟩
  rw [putF_new hnv]
  have gm := gr_mut (o := .ins C dx (vs ++ [(f, v)])) (g.trans g1) h4 h5 h6 (some_ne h2)
  have es : ∀ a, c.rs.S H1 a → upd H1 l (.ins C dx (vs ++ [(f, v)])) a = H1 a := fun a ha => upd_ne fun z => h6 (z ▸ ha)
  have S' := (c.rs.loc g1.w.i es).2
  have ndl : dx ≠ l := fun z => by
    rw [z, h2] at h7
    cases h7
  refine (hr m).sem _ _ p G1 _ σ gm ((E.up g1).mut g1.w hρ rfl h1 h2 h6 (fun a z => by cases z) (x := .oi l C (fs ++ [(f, fld iα m)])) ⟨dx, vs ++ [(f, v)], rfl, upd_same, h3.snoc fun G' e => Rp.mono e r, h4, h5, fun z => h6 ((S' l).mp z), by rw [upd_ne ndl]; exact h7, h8, h9, fun z => h10 ((S' dx).mp z)⟩) D (k.up g1.g) hx
/-- self.f within an __init__ -/
theorem e_fldO {C : Addr} {fs pre post : List (Str × Fp)} {m : α} (j : Nat) {x f : Str} {px pa : Pos} {l : Addr} (hρ : ρ[j]? = some (.oi l C fs)) (hC : Cls X.K C) (hA : NoAttr X.K C f) (hf : fs = pre ++ (f, fld iα m) :: post) (hn : ¬ f ∈ pre.map (·.1)) (hN : X.N[j]? = some x := by rfl) (hv : Vis X.env.scope x := by first | exact Or.inl rfl | exact Or.inr (Or.inl rfl) | exact Or.inr (Or.inr rfl))
    (hd : (x == ("__debug__" : Str)) = false := by decide) (hcd : (x == ("__classdict__" : Str)) = false := by decide) (hb : attributeBase (.Name x px) f X.env (eval (.Name x px) X.env) = eval (.Name x px) X.env := by rfl) :
    JE X c (.Attribute (.Name x px) f pa) ρ iα (tFld X.K (tVar j) f) (fun post _ => post m) := by
  refine ⟨pe_fld (pe_var hN hv hd hcd) hb, fun post ep φ G H σ w E Q k hx => ?_⟩
  obtain ⟨dx, vs, h1, h2, h3, h4, h5, h6, h7, h8, h9, h10⟩ := E.ok j _ hρ
  obtain ⟨v, e1, e2⟩ := h3.at hf hn
  exact ⟨.ref l, h1, l, C, dx, vs, v, rfl, h2, hC, hA, e1, k G H v m (Gr.refl w) e2 φ⟩
end
section
variable {P : Program} {w : World} {K : Fg} {mg : Str → Option Value} {base : Heap} {x qual : Str} {params : Arguments} {body : List Stmt} {scope : Scope} {f : Addr} {fd : FuncData} {N ps : List Str} {k : Nat} {ι δ S : Type} {i : Rp δ}
/-- what is wanted of an __init__'s ends -/
def endI {S L : Type} (mk : S → δ) (post : δ → Prop) : Out S L Unit → Prop
  | .nx s => post (mk s)
  | _ => False
theorem fn_okI {dvs : List V} {kws : List (Str × V)} (F : FunD K x qual params body scope dvs kws f fd) (Sc : FnScope N ps scope) {C : Addr} {as : ι → List Sl} {Φ : ι → Pt δ} {Φb : ι → Pt (Out S Empty Unit)} {fs : S → List (Str × Fp)} {tail : List Sl} {mk : S → δ}
    (hps : ∀ y, (as y).length + 1 = ps.length)
    (hrep : ∀ (s : S) (G : Hp) (q dx : Addr) (vs : List (Str × V)), G q = some (.ins C dx vs) → FlAll K G vs (fs s) → i.rp K G (.ref q) (mk s))
    (hb : ∀ (y : ι) (q : Addr) (cdv : Value) (A : Around) (outer : List Env) (s : Shared) (H Hb G : Hp) (E : XK), Room k (A.deeper (envOfC qual scope s.heap.objs.size f cdv)) →
      ∃ tb, JB (Cf P w K mg base N qual scope f cdv A outer s H E) (Cc rs0 G Hb E) body (.oi q C [] :: as y ++ List.replicate (N.length - ps.length) .no) (fun s : S => .oi q C (fs s) :: tail) (fun z : Empty => nomatch z) rpN tb (Φb y))
    (hΦ : ∀ y post ep, Φ y post ep → Φb y (endI mk post) ep) : FnOk P w K mg base (L2.CX P w) (k + 1) f fd ps (spI K C as i Φ) := by
  refine F.ok Sc (fun vs H Q E h => ?_) (fun cdv A outer s H vs Q E hr h => ?_)
  · obtain ⟨G, Hb, q, dx, us, y, post, ep, rfl, _, _, _, _, _, ha, _⟩ := h
    show us.length + 1 = _
    rw [ha.len]
    exact hps y
  · obtain ⟨G, Hb, q, dx, us, y, post, ep, rfl, eH, h1, h2, h3, wd, ha, φ, hq, hx⟩ := h
    obtain ⟨tb, J⟩ := hb y q cdv A outer s H Hb G E hr
    have hqd : q ≠ dx := fun z => h3 z.symm
    have fr : ∀ a, Hb a = none → G a = none := fun a e => by
      cases e2 : G a with
      | none => rfl
      | some u =>
        have := wd.s a u e2
        rw [e] at this
        cases this
    have g1 := gr_newH (o := .own q) wd h2
    have hq1 : upd Hb dx (.own q) q = none := by rw [upd_ne hqd]; exact h1
    have g2 := gr_newH (o := .ins C dx []) g1.w hq1
    have g12 := g1.trans g2
    rw [← eH] at g12
    have hHq : H q = some (.ins C dx []) := by rw [eH]; exact upd_same
    have hHd : H dx = some (.own q) := by rw [eH, upd_ne h3]; exact upd_same
    refine ⟨tb, J.pe, J.sem _ _ (hΦ y post ep φ) G H _ g12 ?_ _ ⟨?_, ?_, ?_, ?_⟩ ?_⟩
    · have e := en_args (rs := rs0) (H0 := Hb) (H := H) ha (N.length - ps.length)
      have hst : L2.start N (V.ref q :: us) = some (.ref q) :: (us.map some ++ List.replicate (N.length - ps.length) none) := by
        unfold L2.start
        have : N.length - (V.ref q :: us).length = N.length - ps.length := by
          show N.length - (us.length + 1) = _
          rw [ha.len, hps y]
        rw [this]
        rfl
      rw [hst]
      refine ⟨by simpa using e.len, fun n z ez => ?_, fun n r z1 z2 l ne e1 e2 o1 o2 s1 s2 => ?_⟩
      · cases n with
        | zero =>
          have ez : some (Sl.oi q C []) = some z := ez
          cases ez
          exact ⟨dx, [], rfl, hHq, .nil, h1, fr q h1, fun z => z.elim, hHd, h2, fr dx h2, fun z => z.elim⟩
        | succ n => exact e.ok n z ez
      · have noOwn : ∀ (n : Nat) (z : Sl), (as y ++ List.replicate (N.length - ps.length) Sl.no)[n]? = some z → z.own = true → False := by
          intro n z ez oz
          have all : ∀ (vs : List V) (as : List Sl), ArgsOk K G vs as → ∀ x ∈ as, x.own = false := by
            intro vs as h
            induction h with
            | nil => intro x hx; cases hx
            | cons h _ ih =>
              intro x hx
              rcases List.mem_cons.mp hx with rfl | hx
              · cases h <;> rfl
              · exact ih x hx
          rcases List.mem_append.mp (List.mem_of_getElem? ez) with q | q
          · rw [all us _ ha z q] at oz
            cases oz
          · rw [List.eq_of_mem_replicate q] at oz
            cases oz
        cases n with
        | succ n => exact noOwn n z1 e1 o1
        | zero => cases r with
          | zero => exact ne rfl
          | succ r => exact noOwn r z2 e2 o2
    · intro G' H' σ' s' g _ E' p
      obtain ⟨dx', vs, k1, k2, k3, k4, k5, k6, k7, k8, k9, k10⟩ := E'.ok 0 _ rfl
      have gf := gr_frz g k4 k5 k6 k2
      exact hq _ H' (mk s') gf (hrep s' _ q dx' vs upd_same (k3.mono (Ex.new k5))) p
    · exact fun G' H' v b g _ r p => p.elim
    · exact fun G' H' σ' l g _ _ p => p.elim
    · exact fun G' H' σ' l g _ _ p => p.elim
    · exact fun G' H' σ' cls d e g r p => hx G' H' cls d e g r p
end
end Ty

set_option Elab.async false
set_option linter.all false
set_option maxRecDepth 100000
set_option maxHeartbeats 4000000
set_option autoImplicit false
/-! Ty, part F: more rules -/
namespace Ty
open PySem PySem.Spec L2

section
variable {X : Cx} {c : Cn} {ρ : List Sl} {α β γ : Type} {i : Rp α}
theorem i_lst {tg e : Expr} {te : TE} {Φ : Pt (List α)} (he : JE X c e ρ (rpL (i := i)) te Φ) : JI X c tg e ρ i (iList X.K te) (fun post ep => Φ (fun xs => xs.length ≤ sizeLine → post xs) ep) := i_list he (pi_list he.pe)
theorem i_tpl {tg e : Expr} {te : TE} {Φ : Pt (Tu α)} (he : JE X c e ρ (rpT (i := i)) te Φ) : JI X c tg e ρ i (iTup X.K te) (fun post ep => Φ (fun xs => xs.l.length ≤ sizeLine → post xs.l) ep) := i_tup he (pi_tup he.pe)
theorem i_rng1 {tg a : Expr} {p pos : Pos} {t : TA} {Φ : Pt (Int × Unit)} (hg : Gl X "range") (hm : X.mg "range" = none) (ha : JA X c [a] ρ (aCons rpI aNil) t Φ) (hs : starEach [a] X.env = [(false, eval a X.env)] := by rfl) :
    JI X c tg (.Call (.Name "range" p) [a] [] pos) ρ rpI (iRng1 t) (fun post ep => Φ (fun n => (-(2 ^ 62) ≤ n.1 ∧ n.1 < 2 ^ 62) ∧ post (rangeI 0 n.1.toNat)) ep) := i_range1 (es := [a]) (x := "") (p := pos) (pos := pos) ha (pi_range1 hg hm ha.pe hs)
theorem i_rng2 {tg a b : Expr} {p pos : Pos} {t : TA} {Φ : Pt (Int × Int × Unit)} (hg : Gl X "range") (hm : X.mg "range" = none) (ha : JA X c [a, b] ρ (aCons rpI (aCons rpI aNil)) t Φ) (hs : starEach [a, b] X.env = [(false, eval a X.env), (false, eval b X.env)] := by rfl) (hs2 : starEach [b] X.env = [(false, eval b X.env)] := by rfl) :
    JI X c tg (.Call (.Name "range" p) [a, b] [] pos) ρ rpI (iRng2 t) (fun post ep => Φ (fun n => (-(2 ^ 62) ≤ n.1 ∧ n.1 < 2 ^ 62 ∧ -(2 ^ 62) ≤ n.2.1 ∧ n.2.1 < 2 ^ 62) ∧ post (rangeI n.1 (n.2.1 - n.1).toNat)) ep) := i_range2 (es := [a, b]) (x := "") (p := pos) (pos := pos) ha (pi_range2 hg hm ha.pe hs hs2)

/-! ### slices -/
structure JO (X : Cx) (c : Cn) (e : Option Expr) (ρ : List Sl) (t : TO) (Φ : Pt (Option Int)) : Prop where
  pe : PO X e t
  sem : ∀ post ep, Φ post ep → ∀ G H σ, Wd c.rs G H → En X.K c.rs c.H0 G H σ ρ → ∀ Q : Option Int → Hp → Prop, (∀ G' H' m, Gr c.rs G H G' H' → post m → Q m H') → XOk X c G H σ ep → t σ H Q
theorem o_none : JO X c none ρ tNoPart (fun post _ => post none) := ⟨po_none, fun post ep φ G H σ w E Q k hx => k G H none (Gr.refl w) φ⟩
theorem o_some {e : Expr} {te : TE} {Φ : Pt Int} (he : JE X c e ρ rpI te Φ) : JO X c (some e) ρ (tPart te) (fun post ep => Φ (fun n => post (some n)) ep) :=
  ⟨po_some he.pe, fun post ep φ G H σ w E Q k hx => he.sem _ _ φ G H σ w E _ (fun G1 H1 v m g r p => ⟨m, r, k G1 H1 (some m) g p⟩) hx⟩
structure SlW (X : Cx) {α γ : Type} (iα : Rp α) (iγ : Rp γ) (r : V → Option Int → Option Int → Hp → VK → Prop) (Φ : α → Option Int → Option Int → Pt γ) : Prop where
  pe : SlR X r
  sem : ∀ (rs : Rs) (G H : Hp) (x : V) (a : α) (lo hi : Option Int) (post : γ → Prop) (ep : Exn → Prop) (Q : VK), Wd rs G H → iα.rp X.K G x a → Φ a lo hi post ep → (∀ G' H' z m, Gr rs G H G' H' → iγ.rp X.K G' z m → post m → Q z H') → r x lo hi H Q
theorem e_sl {iα : Rp α} {iγ : Rp γ} {r : V → Option Int → Option Int → Hp → VK → Prop} {Φ : α → Option Int → Option Int → Pt γ} {e : Expr} {lo hi : Option Expr} {te : TE} {tl th : TO} {Φa : Pt α} {Φl Φh : Pt (Option Int)} {p2 pos : Pos} (hs : SlW X iα iγ r Φ) (he : JE X c e ρ iα te Φa) (hl : JO X c lo ρ tl Φl) (hh : JO X c hi ρ th Φh) :
    JE X c (.Subscript e (.Slice lo hi none p2) pos) ρ iγ (tSl r te tl th) (fun post ep => Φa (fun a => Φl (fun l => Φh (fun h => Φ a l h post ep) ep) ep) ep) := by
  refine ⟨pe_slice hs.pe he.pe hl.pe hh.pe, fun post ep φ G H σ w E Q k hx => ?_⟩
  refine he.sem _ _ φ G H σ w E _ (fun G1 H1 v m g r φ1 => ?_) hx
  refine hl.sem _ _ φ1 G1 H1 σ g.w (E.up g) _ (fun G2 H2 m2 g2 φ2 => ?_) (hx.up g)
  refine hh.sem _ _ φ2 G2 H2 σ g2.w (E.up (g.trans g2)) _ (fun G3 H3 m3 g3 φ3 => ?_) (hx.up (g.trans g2))
  exact hs.sem _ _ _ _ _ _ _ _ _ _ g3.w (Rp.mono (g2.g.trans g3.g) r) φ3 fun G4 H4 z m g4 r4 p => k G4 H4 z m (((g.trans g2).trans g3).trans g4) r4 p
/-- a list's cut -/
def cutL {α : Type} (xs : List α) (lo hi : Option Int) : List α := (xs.drop (HT.sIx xs.length 0 lo)).take (HT.sIx xs.length xs.length hi - HT.sIx xs.length 0 lo)
theorem RpAll.drop {K : Fg} {G : Hp} : ∀ {vs : List V} {ms : List α} (n : Nat), RpAll i K G vs ms → RpAll i K G (vs.drop n) (ms.drop n)
  | _, _, 0, h => h
  | _, _, _ + 1, .nil => .nil
  | _, _, n + 1, .cons _ t => RpAll.drop n t
theorem RpAll.take {K : Fg} {G : Hp} : ∀ {vs : List V} {ms : List α} (n : Nat), RpAll i K G vs ms → RpAll i K G (vs.take n) (ms.take n)
  | _, _, 0, h => .nil
  | _, _, _ + 1, .nil => .nil
  | _, _, n + 1, .cons h t => .cons h (RpAll.take n t)
theorem RpAll.cut {K : Fg} {G : Hp} {vs : List V} {ms : List α} (h : RpAll i K G vs ms) (lo hi : Option Int) : RpAll i K G (cutV vs lo hi) (cutL ms lo hi) := by
  have e := h.length
  unfold cutV cutL
  rw [e]
  exact (h.drop _).take _
theorem sl_L : SlW X (rpL (i := i)) (rpL (i := i)) (rSlL X.K) (fun xs lo hi post _ => post (cutL xs lo hi)) :=
  ⟨sl_list, fun rs G H x a lo hi post ep Q w r φ k => by
    obtain ⟨l, vs, rfl, h1, h2, h3⟩ := r
    refine ⟨l, vs, rfl, SqL.of (w.s _ _ h1), fun p hp => ?_⟩
    have g := gr_new (o := .lst (cutV vs lo hi)) w hp
    exact k _ _ _ _ g ⟨p, _, rfl, upd_same, (h2.cut lo hi).mono g.g, Nat.le_trans (cutV_length _ _ _) h3⟩ φ⟩
theorem sl_S : SlW X rpS rpS rSlS (fun z lo hi post _ => z.length ≤ sizeLine ∧ post (cutS z lo hi)) :=
  ⟨sl_str, fun rs G H x a lo hi post ep Q w r φ k => ⟨a, r, φ.1, k G H _ _ (Gr.refl w) rfl φ.2⟩⟩
/-- a tuple's cut that is not the whole -/
theorem sl_T : SlW X (rpT (i := i)) (rpT (i := i)) (rSlT X.K) (fun xs lo hi post _ => ¬ (HT.sIx xs.l.length 0 lo = 0 ∧ HT.sIx xs.l.length xs.l.length hi = xs.l.length) ∧ post ⟨cutL xs.l lo hi⟩) :=
  ⟨sl_tup, fun rs G H x a lo hi post ep Q w r φ k => by
    obtain ⟨l, vs, rfl, h1, h2, h3⟩ := r
    have e := h2.length
    refine ⟨l, vs, rfl, w.s.st h1, by rw [e]; exact φ.1, fun p hp => ?_⟩
    have g := gr_new (o := .tup (cutV vs lo hi)) w hp
    exact k _ _ _ _ g ⟨p, _, rfl, SqT.of upd_same, (h2.cut lo hi).mono g.g, Nat.le_trans (cutV_length _ _ _) h3⟩ φ.2⟩

/-! ### in -/
class Flat (α : Type) [BEq α] (i : Rp α) where
  out : ∀ {K : Fg} {G : Hp} {x y : V} {a b : α}, i.rp K G x a → i.rp K G y b → flatV x = true ∧ eqV x y = (a == b)
instance : Flat Int rpI := ⟨fun {K G x y a b} h1 h2 => by
  obtain rfl : x = .int a := h1
  obtain rfl : y = .int b := h2
  exact ⟨rfl, rfl⟩⟩
instance : Flat Bool rpB := ⟨fun {K G x y a b} h1 h2 => by
  obtain rfl : x = .bl a := h1
  obtain rfl : y = .bl b := h2
  exact ⟨rfl, rfl⟩⟩
instance : Flat Str rpS := ⟨fun {K G x y a b} h1 h2 => by
  obtain rfl : x = .str a := h1
  obtain rfl : y = .str b := h2
  exact ⟨rfl, rfl⟩⟩
theorem flat_all [BEq α] [f : Flat α i] {K : Fg} {G : Hp} {x : V} {a : α} (hx : i.rp K G x a) : ∀ {vs : List V} {ms : List α}, RpAll i K G vs ms → vs.all flatV = true ∧ inV x vs = ms.any (fun m => m == a)
  | _, _, .nil => ⟨rfl, rfl⟩
  | _, _, .cons h t => by
    obtain ⟨h1, h2⟩ := f.out h hx
    obtain ⟨h3, h4⟩ := flat_all hx t
    refine ⟨by rw [List.all_cons, h1, h3]; rfl, ?_⟩
    unfold inV at h4 ⊢
    rw [List.any_cons, List.any_cons, h4, h2]
theorem in_L [BEq α] [f : Flat α i] : OpW X (compareOp .In) i (rpL (i := i)) rpB (rIn X.K false) (fun a xs post _ => post (xs.any fun m => m == a)) :=
  ⟨op_in_seq, fun rs G H x y a b post ep Q w hx hy φ k => by
    obtain ⟨l, vs, rfl, h1, h2, h3⟩ := hy
    obtain ⟨e1, e2⟩ := flat_all hx h2
    exact ⟨l, vs, rfl, .inl (SqL.of (w.s _ _ h1)), (f.out hx hx).1, e1, k G H _ _ (Gr.refl w) (by show V.bl _ = V.bl _; rw [e2]; rfl) φ⟩⟩
theorem in_T [BEq α] [f : Flat α i] : OpW X (compareOp .In) i (rpT (i := i)) rpB (rIn X.K false) (fun a xs post _ => post (xs.l.any fun m => m == a)) :=
  ⟨op_in_seq, fun rs G H x y a b post ep Q w hx hy φ k => by
    obtain ⟨l, vs, rfl, h1, h2, h3⟩ := hy
    obtain ⟨e1, e2⟩ := flat_all hx h2
    exact ⟨l, vs, rfl, .inr (w.s.st h1), (f.out hx hx).1, e1, k G H _ _ (Gr.refl w) (by show V.bl _ = V.bl _; rw [e2]; rfl) φ⟩⟩
theorem nin_L [BEq α] [f : Flat α i] : OpW X (compareOp .NotIn) i (rpL (i := i)) rpB (rIn X.K true) (fun a xs post _ => post (!xs.any fun m => m == a)) :=
  ⟨op_notIn_seq, fun rs G H x y a b post ep Q w hx hy φ k => by
    obtain ⟨l, vs, rfl, h1, h2, h3⟩ := hy
    obtain ⟨e1, e2⟩ := flat_all hx h2
    exact ⟨l, vs, rfl, .inl (SqL.of (w.s _ _ h1)), (f.out hx hx).1, e1, k G H _ _ (Gr.refl w) (by show V.bl _ = V.bl _; rw [e2]; rfl) φ⟩⟩
theorem nin_T [BEq α] [f : Flat α i] : OpW X (compareOp .NotIn) i (rpT (i := i)) rpB (rIn X.K true) (fun a xs post _ => post (!xs.l.any fun m => m == a)) :=
  ⟨op_notIn_seq, fun rs G H x y a b post ep Q w hx hy φ k => by
    obtain ⟨l, vs, rfl, h1, h2, h3⟩ := hy
    obtain ⟨e1, e2⟩ := flat_all hx h2
    exact ⟨l, vs, rfl, .inr (w.s.st h1), (f.out hx hx).1, e1, k G H _ _ (Gr.refl w) (by show V.bl _ = V.bl _; rw [e2]; rfl) φ⟩⟩

/-! ### data: == -/
class Dat (α : Type) (i : Rp α) where
  enc : α → PyData
  ok : α → Prop
  dep : Nat
  dp : ∀ {K : Fg} {G : Hp} {v : V} {m : α}, i.rp K G v m → Dp K G v (enc m)
  lay : ∀ {m : α}, ok m → PyData.canLay0 (enc m) = true
  hdep : ∀ m : α, PyData.depth (enc m) ≤ dep
/-- == of such data is = -/
class DatE (α : Type) [DecidableEq α] (i : Rp α) [d : Dat α i] : Prop where
  eqv : ∀ a b : α, PyData.eqv (d.enc a) (d.enc b) = decide (a = b)
instance : Dat Int rpI := ⟨fun n => .int n, fun _ => True, 0, fun {K G v m} h => by
  obtain rfl : v = .int m := h
  exact .int m, fun _ => rfl, fun m => by simp [PyData.depth]⟩
instance : Dat Bool rpB := ⟨fun n => .bool n, fun _ => True, 0, fun {K G v m} h => by
  obtain rfl : v = .bl m := h
  exact .bl m, fun _ => rfl, fun m => by simp [PyData.depth]⟩
instance : Dat Str rpS := ⟨fun n => .str n, fun s => PyData.strOk s = true, 0, fun {K G v m} h => by
  obtain rfl : v = .str m := h
  exact .str m, fun h => by simpa [PyData.canLay0] using h, fun m => by simp [PyData.depth]⟩
end
theorem dpAll {α : Type} {i : Rp α} [d : Dat α i] {K : Fg} {G : Hp} : ∀ {vs : List V} {ms : List α}, RpAll i K G vs ms → DpAll K G vs (ms.map d.enc)
  | _, _, .nil => .nil
  | _, _, .cons h t => .cons (d.dp h) (dpAll t)
theorem layAll {α : Type} {i : Rp α} [d : Dat α i] : ∀ {ms : List α}, (∀ m ∈ ms, d.ok m) → PyData.canLayAll0 (ms.map d.enc) = true
  | [], _ => by simp [PyData.canLayAll0]
  | m :: ms, h => by
    rw [List.map_cons]
    simp only [PyData.canLayAll0, Bool.and_eq_true]
    exact ⟨d.lay (h m List.mem_cons_self), layAll fun x hx => h x (List.mem_cons_of_mem _ hx)⟩
theorem depAll {α : Type} {i : Rp α} [d : Dat α i] : ∀ ms : List α, PyData.depthAll (ms.map d.enc) ≤ d.dep
  | [] => by simp [PyData.depthAll]
  | m :: ms => by
    rw [List.map_cons]
    simp only [PyData.depthAll]
    exact Nat.max_le.mpr ⟨d.hdep m, depAll ms⟩
theorem eqvAll {α : Type} [DecidableEq α] {i : Rp α} [d : Dat α i] [e : DatE α i] : ∀ as bs : List α, PyData.eqvAll (as.map d.enc) (bs.map d.enc) = decide (as = bs)
  | [], [] => by simp [PyData.eqvAll]
  | [], b :: bs => by simp [PyData.eqvAll]
  | a :: as, [] => by simp [PyData.eqvAll]
  | a :: as, b :: bs => by
    rw [List.map_cons, List.map_cons]
    simp only [PyData.eqvAll]
    rw [e.eqv, eqvAll as bs]
    by_cases h1 : a = b
    · by_cases h2 : as = bs
      · simp [h1, h2]
      · simp [h1, h2]
    · simp [h1]
instance datL {α : Type} {i : Rp α} [d : Dat α i] : Dat (List α) (rpL (i := i)) := ⟨fun xs => .list (xs.map d.enc), fun xs => ∀ m ∈ xs, d.ok m, d.dep + 1, fun {K G v m} h => by
  obtain ⟨a, vs, rfl, h1, h2, _⟩ := h
  exact .lst (SqL.of h1) (dpAll h2), fun h => by simpa only [PyData.canLay0] using layAll h, fun m => by
  simp only [PyData.depth]
  exact Nat.succ_le_succ (depAll m)⟩
instance datT {α : Type} {i : Rp α} [d : Dat α i] : Dat (Tu α) (rpT (i := i)) := ⟨fun xs => .tuple (xs.l.map d.enc), fun xs => ∀ m ∈ xs.l, d.ok m, d.dep + 1, fun {K G v m} h => by
  obtain ⟨a, vs, rfl, h1, h2, _⟩ := h
  exact .tup h1 (dpAll h2), fun h => by simpa only [PyData.canLay0] using layAll h, fun m => by
  simp only [PyData.depth]
  exact Nat.succ_le_succ (depAll m.l)⟩
instance dat2 {α β : Type} {i : Rp α} {j : Rp β} [d : Dat α i] [e : Dat β j] : Dat (α × β) (rp2 (i := i) (j := j)) := ⟨fun p => .tuple [d.enc p.1, e.enc p.2], fun p => d.ok p.1 ∧ e.ok p.2, max d.dep e.dep + 1, fun {K G v m} h => by
  obtain ⟨a, x, y, rfl, h1, h2, h3⟩ := h
  exact .tup h1 (.cons (d.dp h2) (.cons (e.dp h3) .nil)), fun {m} h => by
  simp only [PyData.canLay0, PyData.canLayAll0, d.lay h.1, e.lay h.2, Bool.and_self], fun m => by
  simp only [PyData.depth, PyData.depthAll]
  have := d.hdep m.1
  have := e.hdep m.2
  omega⟩
instance : DatE Int rpI := ⟨fun a b => by
  show PyData.eqv (.int a) (.int b) = _
  simp [PyData.eqv, Bool.beq_eq_decide_eq]⟩
instance : DatE Bool rpB := ⟨fun a b => by
  show PyData.eqv (.bool a) (.bool b) = _
  simp [PyData.eqv, Bool.beq_eq_decide_eq]⟩
instance : DatE Str rpS := ⟨fun a b => by
  show PyData.eqv (.str a) (.str b) = _
  simp [PyData.eqv, Bool.beq_eq_decide_eq]⟩
instance {α : Type} [DecidableEq α] {i : Rp α} [d : Dat α i] [e : DatE α i] : DatE (List α) (rpL (i := i)) := ⟨fun a b => by
  show PyData.eqv (.list _) (.list _) = _
  simp only [PyData.eqv]
  exact eqvAll a b⟩
instance {α : Type} [DecidableEq α] : DecidableEq (Tu α) := fun a b => match a, b with
  | ⟨x⟩, ⟨y⟩ => if h : x = y then isTrue (by rw [h]) else isFalse fun q => h (Tu.mk.inj q)
instance {α : Type} [DecidableEq α] {i : Rp α} [d : Dat α i] [e : DatE α i] : DatE (Tu α) (rpT (i := i)) := ⟨fun a b => by
  show PyData.eqv (.tuple _) (.tuple _) = _
  simp only [PyData.eqv]
  rw [eqvAll]
  obtain ⟨x⟩ := a
  obtain ⟨y⟩ := b
  by_cases h : x = y <;> simp [h]⟩
instance {α β : Type} [DecidableEq α] [DecidableEq β] {i : Rp α} {j : Rp β} [d : Dat α i] [e : Dat β j] [d' : DatE α i] [e' : DatE β j] : DatE (α × β) (rp2 (i := i) (j := j)) := ⟨fun a b => by
  show PyData.eqv (.tuple [_, _]) (.tuple [_, _]) = _
  simp only [PyData.eqv, PyData.eqvAll, d'.eqv, e'.eqv]
  obtain ⟨x, y⟩ := a
  obtain ⟨z, u⟩ := b
  by_cases h1 : x = z <;> by_cases h2 : y = u <;> simp [h1, h2]⟩
section
variable {X : Cx} {α : Type} {i : Rp α}
theorem shaped_of [d : Dat α i] {m : α} (h : d.ok m) (hd : d.dep ≤ 64) : SeqAt.shaped (d.enc m) = true := by
  unfold SeqAt.shaped
  rw [d.lay h, decide_eq_true (Nat.le_trans (d.hdep m) hd)]
  rfl
theorem eq_D [DecidableEq α] [d : Dat α i] [e : DatE α i] (hu : X.A.units + 64 < cLine) (hd : d.dep ≤ 64 := by decide) : OpW X (compareOp .Eq) i i rpB (rEqD X.K) (fun a b post _ => d.ok a ∧ d.ok b ∧ post (decide (a = b))) :=
  ⟨op_eqD hu, fun rs G H x y a b post ep Q w hx hy φ k => by
    refine ⟨d.enc a, d.enc b, ?_, ?_, shaped_of φ.1 hd, shaped_of φ.2.1 hd, k G H _ _ (Gr.refl w) (by rw [e.eqv]; rfl) φ.2.2⟩
    · exact d.dp (Rp.mono w.s hx)
    · exact d.dp (Rp.mono w.s hy)⟩
theorem ne_D [DecidableEq α] [d : Dat α i] [e : DatE α i] (hu : X.A.units + 64 < cLine) (hd : d.dep ≤ 64 := by decide) : OpW X (compareOp .NotEq) i i rpB (rNeD X.K) (fun a b post _ => d.ok a ∧ d.ok b ∧ post (!decide (a = b))) :=
  ⟨op_neD hu, fun rs G H x y a b post ep Q w hx hy φ k => by
    refine ⟨d.enc a, d.enc b, ?_, ?_, shaped_of φ.1 hd, shaped_of φ.2.1 hd, k G H _ _ (Gr.refl w) (by rw [e.eqv]; rfl) φ.2.2⟩
    · exact d.dp (Rp.mono w.s hx)
    · exact d.dp (Rp.mono w.s hy)⟩
/-! ### built-ins over lists -/
theorem mapI {K : Fg} {G : Hp} : ∀ {vs : List V} {ms : List Int}, RpAll rpI K G vs ms → vs = ms.map V.int
  | _, _, .nil => rfl
  | _, _, .cons h t => by
    obtain rfl := h
    rw [mapI t]
    rfl
theorem mapB {K : Fg} {G : Hp} : ∀ {vs : List V} {ms : List Bool}, RpAll rpB K G vs ms → vs = ms.map V.bl
  | _, _, .nil => rfl
  | _, _, .cons h t => by
    obtain rfl := h
    rw [mapB t]
    rfl
theorem max_L (hc : X.calm = true) : CallW X (.builtin "max") (aCons (rpL (i := rpI)) aNil) rpI (rMax X.K) (fun x post _ => 0 < x.1.length ∧ ∀ m, m ∈ x.1 → (∀ y ∈ x.1, y ≤ m) → post m) :=
  ⟨cr_max hc, fun rs G H vs x post ep Q w ha φ k => by
    obtain ⟨v, rfl, l, us, rfl, h1, h2, h3⟩ := one1 ha
    have e := mapI h2
    subst e
    exact ⟨l, x.1, rfl, SqL.of (w.s _ _ h1), φ.1, fun m hm hy => k G H _ _ (Gr.refl w) rfl (φ.2 m hm hy)⟩⟩
theorem min_L (hc : X.calm = true) : CallW X (.builtin "min") (aCons (rpL (i := rpI)) aNil) rpI (rMin X.K) (fun x post _ => 0 < x.1.length ∧ ∀ m, m ∈ x.1 → (∀ y ∈ x.1, m ≤ y) → post m) :=
  ⟨cr_min hc, fun rs G H vs x post ep Q w ha φ k => by
    obtain ⟨v, rfl, l, us, rfl, h1, h2, h3⟩ := one1 ha
    have e := mapI h2
    subst e
    exact ⟨l, x.1, rfl, SqL.of (w.s _ _ h1), φ.1, fun m hm hy => k G H _ _ (Gr.refl w) rfl (φ.2 m hm hy)⟩⟩
theorem sum_L (hc : X.calm = true) : CallW X (.builtin "sum") (aCons (rpL (i := rpI)) aNil) rpI (rSum X.K) (fun x post _ => post x.1.sum) :=
  ⟨cr_sum hc, fun rs G H vs x post ep Q w ha φ k => by
    obtain ⟨v, rfl, l, us, rfl, h1, h2, h3⟩ := one1 ha
    have e := mapI h2
    subst e
    exact ⟨l, x.1, rfl, SqL.of (w.s _ _ h1), k G H _ _ (Gr.refl w) rfl φ⟩⟩
theorem all_L (hc : X.calm = true) : CallW X (.builtin "all") (aCons (rpL (i := rpB)) aNil) rpB (rAll X.K) (fun x post _ => post (x.1.all id)) :=
  ⟨cr_all hc, fun rs G H vs x post ep Q w ha φ k => by
    obtain ⟨v, rfl, l, us, rfl, h1, h2, h3⟩ := one1 ha
    have e := mapB h2
    subst e
    exact ⟨l, x.1, rfl, SqL.of (w.s _ _ h1), k G H _ _ (Gr.refl w) rfl φ⟩⟩
theorem any_L (hc : X.calm = true) : CallW X (.builtin "any") (aCons (rpL (i := rpB)) aNil) rpB (rAny X.K) (fun x post _ => post (x.1.any id)) :=
  ⟨cr_any hc, fun rs G H vs x post ep Q w ha φ k => by
    obtain ⟨v, rfl, l, us, rfl, h1, h2, h3⟩ := one1 ha
    have e := mapB h2
    subst e
    exact ⟨l, x.1, rfl, SqL.of (w.s _ _ h1), k G H _ _ (Gr.refl w) rfl φ⟩⟩
abbrev rListOf (K : Fg) : List V → Hp → VK → Prop := fun xs H Q => ∃ p ys, xs = [.ref p] ∧ (SqL K H p ys ∨ SqT K H p ys) ∧ ∀ l, H l = none → Q (.ref l) (upd H l (.lst ys))
abbrev rTupOf (K : Fg) : List V → Hp → VK → Prop := fun xs H Q => ∃ p ys, xs = [.ref p] ∧ ((SqL K H p ys ∧ ∀ l, H l = none → Q (.ref l) (upd H l (.tup ys))) ∨ (SqT K H p ys ∧ Q (.ref p) H))
theorem list_L : CallW X (.type "list") (aCons (rpL (i := i)) aNil) (rpL (i := i)) (rListOf X.K) (fun x post _ => post x.1) :=
  ⟨call_list_of, fun rs G H vs x post ep Q w ha φ k => by
    obtain ⟨v, rfl, l, us, rfl, h1, h2, h3⟩ := one1 ha
    refine ⟨l, us, rfl, .inl (SqL.of (w.s _ _ h1)), fun p hp => ?_⟩
    have g := gr_new (o := .lst us) w hp
    exact k _ _ _ _ g ⟨p, us, rfl, upd_same, h2.mono g.g, h3⟩ φ⟩
theorem list_T : CallW X (.type "list") (aCons (rpT (i := i)) aNil) (rpL (i := i)) (rListOf X.K) (fun x post _ => post x.1.l) :=
  ⟨call_list_of, fun rs G H vs x post ep Q w ha φ k => by
    obtain ⟨v, rfl, l, us, rfl, h1, h2, h3⟩ := one1 ha
    refine ⟨l, us, rfl, .inr (w.s.st h1), fun p hp => ?_⟩
    have g := gr_new (o := .lst us) w hp
    exact k _ _ _ _ g ⟨p, us, rfl, upd_same, h2.mono g.g, h3⟩ φ⟩
theorem tuple_L : CallW X (.type "tuple") (aCons (rpL (i := i)) aNil) (rpT (i := i)) (rTupOf X.K) (fun x post _ => post ⟨x.1⟩) :=
  ⟨call_tuple_of, fun rs G H vs x post ep Q w ha φ k => by
    obtain ⟨v, rfl, l, us, rfl, h1, h2, h3⟩ := one1 ha
    refine ⟨l, us, rfl, .inl ⟨SqL.of (w.s _ _ h1), fun p hp => ?_⟩⟩
    have g := gr_new (o := .tup us) w hp
    exact k _ _ _ _ g ⟨p, us, rfl, SqT.of upd_same, h2.mono g.g, h3⟩ φ⟩
theorem tuple_T : CallW X (.type "tuple") (aCons (rpT (i := i)) aNil) (rpT (i := i)) (rTupOf X.K) (fun x post _ => post x.1) :=
  ⟨call_tuple_of, fun rs G H vs x post ep Q w ha φ k => by
    obtain ⟨v, rfl, l, us, rfl, h1, h2, h3⟩ := one1 ha
    exact ⟨l, us, rfl, .inr ⟨w.s.st h1, k G H _ _ (Gr.refl w) ⟨l, us, rfl, h1, h2, h3⟩ φ⟩⟩⟩
end
/-! ### more statements -/
section
variable {X : Cx} {c : Cn} {ρ : List Sl} {S L β α γ : Type} {out : S → List Sl} {lp : L → List Sl} {i : Rp β} {iα : Rp α} {iγ : Rp γ} {pos : Pos} {rest : List Stmt} {tr : TS} {e : Expr} {te : TE} {Φe : Pt α}
theorem b_doc {x : Str} {j : Nat} {p1 p2 : Pos} {Φr : Pt (Out S L β)} (hr : JB X c rest ρ out lp i tr Φr) : JB X c (.Expr (.Constant (.str x) j p1) p2 :: rest) ρ out lp i (tSeq tNext tr) Φr :=
  ⟨pss_cons ps_doc hr.pe, fun post ep φ G H σ g E D k hx => hr.sem _ _ φ G H σ g E D k hx⟩
theorem b_retN : JB X c (.Return none pos :: rest) ρ out lp rpN (tSeq tRetN tNever) (fun post _ => post (.rt ())) :=
  ⟨pss_cons ps_retN pss_never, fun post ep φ G H σ g E D k hx => k.rt G H .non () g (Ex.refl _) rfl φ⟩
/-- an if whose ways all leave -/
theorem b_ifE2 {t : Expr} {b1 b2 : List Stmt} {tt : TT} {t1 t2 : TS} {Φt : Pt Bool} {Φ1 Φ2 : Pt (Out Empty L β)} (ht : JT X c t ρ tt Φt) (h1 : JB X c b1 ρ (fun z : Empty => nomatch z) lp i t1 Φ1) (h2 : JB X c b2 ρ (fun z : Empty => nomatch z) lp i t2 Φ2) :
    JB X c (.If t b1 b2 pos :: rest) ρ out lp i (tSeq (tIfS tt t1 t2) tNever) (fun post ep => Φt (fun k => if k = true then Φ1 (seqP (fun z : Empty => nomatch z) post ep) ep else Φ2 (seqP (fun z : Empty => nomatch z) post ep) ep) ep) := by
  refine ⟨pss_cons (ps_if ht.pe h1.pe h2.pe) pss_never, fun post ep φ G H σ g E D k hx => ?_⟩
  refine ht.sem _ _ φ G H σ g.w E _ (fun G1 H1 m g1 p => ?_) (hx.at g)
  have k := k.up g1.g
  have ends : EndsOk X c G1 i (fun z : Empty => nomatch z) lp (seqP (fun z : Empty => nomatch z) post ep) { D with nx := tNever D } :=
    ⟨fun G' H' σ' s => Empty.elim s, fun G' H' v b g' x' r p' => k.rt G' H' v b g' x' r p', fun G' H' σ' l g' x' E' p' => k.bk G' H' σ' l g' x' E' p', fun G' H' σ' l g' x' E' p' => k.ct G' H' σ' l g' x' E' p'⟩
  cases m with
  | true => exact h1.sem _ _ p G1 H1 σ (g.trans g1) (E.up g1) _ ends hx
  | false => exact h2.sem _ _ p G1 H1 σ (g.trans g1) (E.up g1) _ ends hx
/-- a, b = e1, e2: two local names -/
theorem b_par [Nonempty α] [Nonempty γ] (j1 j2 : Nat) {x y : Str} {a b : Expr} {px py pt : Pos} {kt k2 : Nat} {pt2 : Pos} {ta : TA} {Φa : Pt (α × γ × Unit)} {Φr : α → γ → Pt (Out S L β)} (hN : X.N.Nodup) (ha : JA X c [a, b] ρ (aCons iα (aCons iγ aNil)) ta Φa)
    (hr : ∀ m n, JB X c rest ((ρ.set j1 (.val iα m)).set j2 (.val iγ n)) out lp i tr (Φr m n)) (hc : X.calm = true := by rfl) (hi : X.N[j1]? = some x := by rfl) (hj : X.N[j2]? = some y := by rfl) (hij : j1 ≠ j2 := by decide) (hx : X.env.scope.names.lookup x = some .local := by rfl) (hy : X.env.scope.names.lookup y = some .local := by rfl)
    (hw : swappedStores [.Tuple [.Name x px, .Name y py] kt pt] (.Tuple [a, b] k2 pt2) X.env = pure (some [x, y]) := by rfl) (hs : swapsWithSole [.Tuple [.Name x px, .Name y py] kt pt] (.Tuple [a, b] k2 pt2) pos.line X.env = pure false := by rfl) :
    JB X c (.Assign [.Tuple [.Name x px, .Name y py] kt pt] (.Tuple [a, b] k2 pt2) pos :: rest) ρ out lp i (tSeq (tPar j1 j2 ta) tr) (fun post ep => Φa (fun z => Φr z.1 z.2.1 post ep) ep) := by
  refine ⟨pss_cons (ps_par hc hN hi hj hij hx hy ha.pe hw hs) (hr (Classical.choice inferInstance) (Classical.choice inferInstance)).pe, fun post ep φ G H σ g E D k hxx => ?_⟩
  refine ha.sem _ _ φ G H σ g.w E _ (fun G1 H1 vs z g1 r p => ?_) (hxx.at g)
  obtain ⟨v, u, rfl, h1, h2⟩ := two2 r
  refine ⟨v, u, rfl, (hr z.1 z.2.1).sem _ _ p G1 H1 _ (g.trans g1) ?_ D (k.up g1.g) hxx⟩
  exact (((E.up g1).set (x := .val iα z.1) ⟨v, rfl, h1⟩ rfl).set (x := .val iγ z.2.1) ⟨u, rfl, h2⟩ rfl)
end
end Ty

set_option Elab.async false
set_option linter.all false
set_option maxRecDepth 100000
set_option maxHeartbeats 4000000
set_option autoImplicit false
/-! Ty, part G: operators, len, truth, repr, in, == of own classes; isinstance -/
namespace Ty
open PySem PySem.Spec PyProof.Rows L2

/-- such values are instances of the class at C -/
def InsR (K : Fg) {α : Type} (i : Rp α) (C : Addr) : Prop := ∀ (G : Hp) (v : V) (m : α), i.rp K G v m → ∃ p dx fs, v = .ref p ∧ G p = some (.ins C dx fs)
def IsI (H : Hp) (C : Addr) (x : V) : Prop := ∃ p dx fs, x = .ref p ∧ H p = some (.ins C dx fs)
theorem InsR.is {K : Fg} {α : Type} {i : Rp α} {C : Addr} (h : InsR K i C) {G H : Hp} {v : V} {m : α} (w : Ex G H) (r : i.rp K G v m) : IsI H C v := by
  obtain ⟨p, dx, fs, h1, h2⟩ := h G v m r
  exact ⟨p, dx, fs, h1, w _ _ h2⟩
section
variable {X : Cx} {k : Nat} {f : Addr} {fd : FuncData} {ps : List Str} {sp : Sp} {pins : List (Addr × Obj)} {σ : L2.St} {H : Hp} {s : Shared} {us : List Value} {vs : List V} {Q : VK} {A : Around}
/-- an own method that lets no error out, called by the machine -/
theorem own_run (hr : Room k A) (hA : A.frames = X.A.frames) (F : FnOk X.prog X.w X.K X.mg X.base (L2.CX X.prog X.w) k f fd ps sp) (hb : Binds X.K fd ps []) (I : Inv X pins σ H s) (r : Vals vs us) (h : sp vs H Q E0) :
    wpAny (model X.prog X.w) A (call (.ref f) us) (EP X pins σ Q) X.xe s := by
  have hl := F.len _ _ _ _ h
  have e0 : Env0 X.prog X.w X.K X.mg X.base A X.stack s H := by
    have e := I.env0
    exact ⟨by rw [hA]; exact e.frames, e.mod, e.bs, e.bsz, e.funs, e.frf, e.hok, e.bare⟩
  have hl2 : us.length = ps.length := by rw [← r.length]; exact hl
  refine wpAny_call (codeAny_mono (F.run A X.stack s H ⟨us, []⟩ us vs Q E0 hr e0 (by
    have := hb s us I.kIn (by simpa using hl2)
    simpa using this) r h) fun r s' hq => ?_)
  cases r with
  | error e => exact passL pins σ H s e s' I hq
  | ok fl =>
    cases fl with
    | ret w => exact I.after hq
    | next => exact False.elim hq
    | brk => exact False.elim hq
    | cont => exact False.elim hq
theorem back_of {v : Value} {s' : Shared} (h : EP X pins σ Q v s') : PySem.W.CmpBack (EP X pins σ Q) v s' := by
  have h' := h
  obtain ⟨z, H', I', r, q⟩ := h
  cases v <;> first | exact h' | (cases z <;> first | (obtain ⟨_, e⟩ := r; cases e) | cases r)
/-- the instance at an address -/
theorem inst_at {C dx : Addr} {p : Addr} {fs : List (Str × V)} (I : Inv X pins σ H s) (h : H p = some (.ins C dx fs)) : ∃ ox od, PySem.W.InstAt s.heap p ox C (some od) := by
  obtain ⟨mA, J, _⟩ := ins_get I.hok h
  obtain ⟨od, J, _⟩ := J.look
  exact ⟨_, od, J⟩
end
section
variable {X : Cx} {k : Nat} {C f : Addr} {fd : FuncData} {ps : List Str} {α β γ : Type} {iα : Rp α} {iβ : Rp β} {iγ : Rp γ}
abbrev as1 {α : Type} (iα : Rp α) : α × Unit → List Sl := aCons iα aNil
abbrev as2 {α β : Type} (iα : Rp α) (iβ : Rp β) : α × β × Unit → List Sl := aCons iα (aCons iβ aNil)
/-- a promise used where no error may come -/
theorem sp_use {K : Fg} {rs : Rs} {ι : Type} {as : ι → List Sl} {i : Rp γ} {Φ : ι → Pt γ} {G H : Hp} {vs : List V} {x : ι} {post : γ → Prop} {Q : VK} (w : Wd rs G H) (a : ArgsOk K G vs (as x)) (φ : Φ x post (fun _ => False)) (k : ∀ G' H' z m, Gr rs G H G' H' → i.rp K G' z m → post m → Q z H') : spOf K rs0 as i Φ vs H Q E0 :=
  ⟨G, x, post, fun _ => False, w.to0, a, φ, fun G' H' v m g r p => k G' H' v m (g.lift w) r p, fun _ _ _ _ _ _ _ z => z.elim⟩
def rOwn2 (C : Addr) (P : V → Hp → Prop) (sp : Sp) : R2 := fun x y H Q => IsI H C x ∧ P y H ∧ sp [x, y] H Q E0
theorem opw_own {op : Operator} {Φ : α × β × Unit → Pt γ} (hα : InsR X.K iα C) (hβ : InsR X.K iβ C) (F : FnOk X.prog X.w X.K X.mg X.base (L2.CX X.prog X.w) k f fd ps (spOf X.K rs0 (as2 iα iβ) iγ Φ)) (hb : Binds X.K fd ps []) (hr : Room k X.A)
    (hsf : PySem.W.selfFirst X.K C = true) (hs : PySem.W.findIn X.K (.ref C) (PySem.dunder op.info.2) = some (some (.ref f))) (hf : PySem.W.isFn X.K (.ref f) = true) :
    OpW X (binaryOp op) iα iβ iγ (rOwn2 C (fun y H => IsI H C y) (spOf X.K rs0 (as2 iα iβ) iγ Φ)) (fun a b post _ => Φ (a, b, ()) post (fun _ => False)) := by
  refine ⟨fun pins s σ H x y v u Q I rx ry h => ?_, fun rs G H x y a b post ep Q w hx hy φ k => ⟨hα.is w.s hx, hβ.is w.s hy, sp_use w (.cons (.val hx) (.cons (.val hy) .nil)) φ k⟩⟩
  obtain ⟨⟨p, dx, fs, rfl, h1⟩, ⟨q, dy, gs, rfl, h2⟩, h⟩ := h
  cases rx
  cases ry
  obtain ⟨ox, od, J⟩ := inst_at I h1
  obtain ⟨oy, oe, J'⟩ := inst_at I h2
  obtain ⟨m, hF⟩ := I.fr
  refine PySem.W.binop_K hF I.ok.mod.kin J J'.type hsf hs hf ?_
  exact thn (own_run (vs := [.ref p, .ref q]) hr rfl F hb I (.cons rfl (.cons rfl .nil)) h) fun v s' z => back_of z
/-- .. by a whole number -/
theorem opw_ownI {op : Operator} {Φ : α × Int × Unit → Pt γ} {fo ro rc : Option Value} (hα : InsR X.K iα C) (F : FnOk X.prog X.w X.K X.mg X.base (L2.CX X.prog X.w) k f fd ps (spOf X.K rs0 (as2 iα rpI) iγ Φ)) (hb : Binds X.K fd ps []) (hr : Room k X.A)
    (hsf : PySem.W.selfFirst X.K C = true) (hs : PySem.W.findIn X.K (.ref C) (PySem.dunder op.info.2) = some (some (.ref f))) (hf : PySem.W.isFn X.K (.ref f) = true) (hrc : PySem.W.findIn X.K (.ref C) (PySem.dunderR op.info.2) = some rc) (hp : rc = none ∨ ∃ g : Addr, rc = some (.ref g))
    (h1 : PySem.W.findIn X.K (.type "int") (PySem.dunder op.info.2) = some fo) (h2 : PySem.W.findIn X.K (.type "int") (PySem.dunderR op.info.2) = some ro) (hsub : PySem.W.subIn X.K (.type "int") (.ref C) = some false) :
    OpW X (binaryOp op) iα rpI iγ (rOwn2 C (fun y _ => ∃ n, y = .int n) (spOf X.K rs0 (as2 iα rpI) iγ Φ)) (fun a b post _ => Φ (a, b, ()) post (fun _ => False)) := by
  refine ⟨fun pins s σ H x y v u Q I rx ry h => ?_, fun rs G H x y a b post ep Q w hx hy φ k => ⟨hα.is w.s hx, ⟨b, hy⟩, sp_use w (.cons (.val hx) (.cons (.val hy) .nil)) φ k⟩⟩
  obtain ⟨⟨p, dx, fs, rfl, hp1⟩, ⟨n, rfl⟩, h⟩ := h
  cases rx
  obtain ⟨t, rfl⟩ := ry
  obtain ⟨ox, od, J⟩ := inst_at I hp1
  obtain ⟨m, hF⟩ := I.fr
  refine PySem.W.ksp_binT (T := "int") hF I.ok.mod.kin J rfl hsf hs hf hrc hp h1 h2 hsub ?_
  exact thn (own_run (vs := [.ref p, .int n]) hr rfl F hb I (.cons rfl (.cons ⟨t, rfl⟩ .nil)) h) fun v s' z => back_of z
/-- own == (and the like): the left one is asked -/
theorem cmpw_own {op : CmpOp} {Φ : α × β × Unit → Pt γ} (hop : ∀ v u, compareOp op v u = richCompare op v u) (hα : InsR X.K iα C) (hβ : InsR X.K iβ C) (F : FnOk X.prog X.w X.K X.mg X.base (L2.CX X.prog X.w) k f fd ps (spOf X.K rs0 (as2 iα iβ) iγ Φ)) (hb : Binds X.K fd ps []) (hr : Room k X.A)
    (hs : PySem.W.findIn X.K (.ref C) (cmpInfo op).2.1 = some (some (.ref f))) (hf : PySem.W.isFn X.K (.ref f) = true) :
    OpW X (compareOp op) iα iβ iγ (rOwn2 C (fun y H => IsI H C y) (spOf X.K rs0 (as2 iα iβ) iγ Φ)) (fun a b post _ => Φ (a, b, ()) post (fun _ => False)) := by
  refine ⟨fun pins s σ H x y v u Q I rx ry h => ?_, fun rs G H x y a b post ep Q w hx hy φ k => ⟨hα.is w.s hx, hβ.is w.s hy, sp_use w (.cons (.val hx) (.cons (.val hy) .nil)) φ k⟩⟩
  obtain ⟨⟨p, dx, fs, rfl, h1⟩, ⟨q, dy, gs, rfl, h2⟩, h⟩ := h
  cases rx
  cases ry
  obtain ⟨ox, od, J⟩ := inst_at I h1
  obtain ⟨oy, oe, J'⟩ := inst_at I h2
  obtain ⟨m, hF⟩ := I.fr
  rw [hop]
  refine PySem.W.cmp_K (tb := .ref C) hr.units0 hF I.ok.mod.kin J J'.type (by simp [PySem.W.notFirst]) hs hf ?_
  exact thn (own_run (vs := [.ref p, .ref q]) hr rfl F hb I (.cons rfl (.cons rfl .nil)) h) fun v s' z => back_of z
/-- x in o, o an own instance -/
def rOwnIn (C : Addr) (sp : Sp) : R2 := fun x y H Q => IsI H C y ∧ sp [y, x] H (fun z H' => ∃ b, z = .bl b ∧ Q (.bl b) H') E0
theorem inw_own {Φ : β × α × Unit → Pt Bool} (hβ : InsR X.K iβ C) (F : FnOk X.prog X.w X.K X.mg X.base (L2.CX X.prog X.w) k f fd ps (spOf X.K rs0 (as2 iβ iα) rpB Φ)) (hb : Binds X.K fd ps []) (hr : Room k X.A)
    (hs : PySem.W.findIn X.K (.ref C) "__contains__" = some (some (.ref f))) (hf : PySem.W.isFn X.K (.ref f) = true) :
    OpW X (compareOp .In) iα iβ rpB (rOwnIn C (spOf X.K rs0 (as2 iβ iα) rpB Φ)) (fun a b post _ => Φ (b, a, ()) post (fun _ => False)) := by
  refine ⟨fun pins s σ H x y v u Q I rx ry h => ?_, fun rs G H x y a b post ep Q w hx hy φ k => ⟨hβ.is w.s hy, sp_use w (.cons (.val hy) (.cons (.val hx) .nil)) φ fun G' H' z m g r p => ⟨m, r, k G' H' _ m g rfl p⟩⟩⟩
  obtain ⟨⟨p, dx, fs, rfl, h1⟩, h⟩ := h
  cases ry
  obtain ⟨ox, od, J⟩ := inst_at I h1
  obtain ⟨m, hF⟩ := I.fr
  refine PySem.W.in_K hF I.ok.mod.kin J hs hf ?_
  refine thn (own_run (vs := [.ref p, x]) hr rfl F hb I (.cons rfl (.cons rx .nil)) h) fun v s' z => ?_
  obtain ⟨z, H', I', r, b, rfl, q⟩ := z
  cases r
  exact wpAny_truthy_bool ⟨.bl b, H', I', rfl, q⟩
def rOwnNi (C : Addr) (sp : Sp) : R2 := fun x y H Q => IsI H C y ∧ sp [y, x] H (fun z H' => ∃ b, z = .bl b ∧ Q (.bl (!b)) H') E0
theorem ninw_own {Φ : β × α × Unit → Pt Bool} (hβ : InsR X.K iβ C) (F : FnOk X.prog X.w X.K X.mg X.base (L2.CX X.prog X.w) k f fd ps (spOf X.K rs0 (as2 iβ iα) rpB Φ)) (hb : Binds X.K fd ps []) (hr : Room k X.A)
    (hs : PySem.W.findIn X.K (.ref C) "__contains__" = some (some (.ref f))) (hf : PySem.W.isFn X.K (.ref f) = true) :
    OpW X (compareOp .NotIn) iα iβ rpB (rOwnNi C (spOf X.K rs0 (as2 iβ iα) rpB Φ)) (fun a b post _ => Φ (b, a, ()) (fun r => post (!r)) (fun _ => False)) := by
  refine ⟨fun pins s σ H x y v u Q I rx ry h => ?_, fun rs G H x y a b post ep Q w hx hy φ k => ⟨hβ.is w.s hy, sp_use w (.cons (.val hy) (.cons (.val hx) .nil)) φ fun G' H' z m g r p => ⟨m, r, k G' H' _ (!m) g rfl p⟩⟩⟩
  obtain ⟨⟨p, dx, fs, rfl, h1⟩, h⟩ := h
  cases ry
  obtain ⟨ox, od, J⟩ := inst_at I h1
  obtain ⟨m, hF⟩ := I.fr
  refine PySem.W.notIn_K hF I.ok.mod.kin J hs hf ?_
  refine thn (own_run (vs := [.ref p, x]) hr rfl F hb I (.cons rfl (.cons rx .nil)) h) fun v s' z => ?_
  obtain ⟨z, H', I', r, b, rfl, q⟩ := z
  cases r
  exact wpAny_truthy_bool ⟨.bl (!b), H', I', rfl, q⟩
/-- len(o) -/
def rOwnLen (C : Addr) (sp : Sp) : List V → Hp → VK → Prop := fun xs H Q => ∃ x, xs = [x] ∧ IsI H C x ∧ sp [x] H (fun z H' => ∃ n : Int, z = .int n ∧ (0 ≤ n ∧ n < 2 ^ 63) ∧ Q (.int n) H') E0
theorem lenw_own {Φ : α × Unit → Pt Int} (hα : InsR X.K iα C) (F : FnOk X.prog X.w X.K X.mg X.base (L2.CX X.prog X.w) k f fd ps (spOf X.K rs0 (as1 iα) rpI Φ)) (hb : Binds X.K fd ps []) (hr : Room (k + 1) X.A)
    (hs : PySem.W.findIn X.K (.ref C) "__len__" = some (some (.ref f))) (hf : PySem.W.isFn X.K (.ref f) = true) :
    CallW X (.builtin "len") (as1 iα) rpI (rOwnLen C (spOf X.K rs0 (as1 iα) rpI Φ)) (fun a post _ => Φ (a.1, ()) (fun n => (0 ≤ n ∧ n < 2 ^ 63) ∧ post n) (fun _ => False)) := by
  refine ⟨fun pins s σ H xs us Q I r h => ?_, fun rs G H vs x post ep Q w ha φ k => ?_⟩
  · obtain ⟨x, rfl, ⟨p, dx, fs, rfl, h1⟩, h⟩ := h
    obtain ⟨u, rfl, ru⟩ := vals1 r
    cases ru
    obtain ⟨ox, od, J⟩ := inst_at I h1
    obtain ⟨m, hF⟩ := I.fr
    refine PySem.W.len_K hF I.ok.mod.kin J hs hf ?_
    refine thn (own_run (vs := [.ref p]) hr.in1 rfl F hb I (.cons rfl .nil) h) fun v s' z => ?_
    obtain ⟨z, H', I', r, n, rfl, hn, q⟩ := z
    obtain ⟨t, rfl⟩ := r
    exact ⟨hn, ⟨.int n, H', I'.tok _, ⟨_, rfl⟩, q⟩⟩
  · obtain ⟨v, rfl, hv⟩ := one1 ha
    exact ⟨v, rfl, hα.is w.s hv, sp_use w (.cons (.val hv) .nil) φ fun G' H' z m g r p => ⟨m, r, p.1, k G' H' _ m g rfl p.2⟩⟩
/-- repr(o) -/
def rOwnRepr (C : Addr) (sp : Sp) : List V → Hp → VK → Prop := fun xs H Q => ∃ x, xs = [x] ∧ IsI H C x ∧ sp [x] H (fun z H' => ∃ n : Str, z = .str n ∧ Q (.str n) H') E0
theorem reprw_own {Φ : α × Unit → Pt Str} (hα : InsR X.K iα C) (F : FnOk X.prog X.w X.K X.mg X.base (L2.CX X.prog X.w) k f fd ps (spOf X.K rs0 (as1 iα) rpS Φ)) (hb : Binds X.K fd ps []) (hr : Room (k + 1) X.A)
    (hs : PySem.W.findIn X.K (.ref C) "__repr__" = some (some (.ref f))) (hf : PySem.W.isFn X.K (.ref f) = true) :
    CallW X (.builtin "repr") (as1 iα) rpS (rOwnRepr C (spOf X.K rs0 (as1 iα) rpS Φ)) (fun a post _ => Φ (a.1, ()) post (fun _ => False)) := by
  refine ⟨fun pins s σ H xs us Q I r h => ?_, fun rs G H vs x post ep Q w ha φ k => ?_⟩
  · obtain ⟨x, rfl, ⟨p, dx, fs, rfl, h1⟩, h⟩ := h
    obtain ⟨u, rfl, ru⟩ := vals1 r
    cases ru
    obtain ⟨ox, od, J⟩ := inst_at I h1
    obtain ⟨m, hF⟩ := I.fr
    refine PySem.W.repr_K (hr.in1).units0 hF I.ok.mod.kin J hs hf ?_
    refine thn (own_run (vs := [.ref p]) hr.in1 rfl F hb I (.cons rfl .nil) h) fun v s' z => ?_
    obtain ⟨z, H', I', r, n, rfl, q⟩ := z
    obtain ⟨t, rfl⟩ := r
    exact ⟨.str n, H', I', ⟨_, rfl⟩, q⟩
  · obtain ⟨v, rfl, hv⟩ := one1 ha
    exact ⟨v, rfl, hα.is w.s hv, sp_use w (.cons (.val hv) .nil) φ fun G' H' z m g r p => ⟨m, r, k G' H' _ m g rfl p⟩⟩
/-- an own instance's truth, by __bool__ -/
def tOwnTru (C : Addr) (sp : Sp) (te : TE) : TT := fun σ H Q => te σ H fun x H1 => IsI H1 C x ∧ sp [x] H1 (fun z H' => ∃ b, z = .bl b ∧ Q b H') E0
theorem t_own {c : Cn} {ρ : List Sl} {e : Expr} {te : TE} {Φe : Pt α} {Φ : α × Unit → Pt Bool} (hα : InsR X.K iα C) (F : FnOk X.prog X.w X.K X.mg X.base (L2.CX X.prog X.w) k f fd ps (spOf X.K rs0 (as1 iα) rpB Φ)) (hb : Binds X.K fd ps []) (hr : Room k X.A)
    (hs : PySem.W.findIn X.K (.ref C) "__bool__" = some (some (.ref f))) (hf : PySem.W.isFn X.K (.ref f) = true) (he : JE X c e ρ iα te Φe)
    (ht : ∀ whole, isTrue e X.env whole = (do let v ← whole; standAt e.pos; holding [v] (truthy v)) := by intro _; rfl) : JT X c e ρ (tOwnTru C (spOf X.K rs0 (as1 iα) rpB Φ) te) (fun post ep => Φe (fun m => Φ (m, ()) post (fun _ => False)) ep) := by
  refine ⟨⟨fun pins s σ H Q I h => ?_⟩, fun post ep φ G H σ w E Q k hx => he.sem _ _ φ G H σ w E _ (fun G1 H1 v m g r p => ⟨hα.is g.w.s r, sp_use g.w (.cons (.val r) .nil) p fun G' H' z b g' r' p' => ⟨b, r', k G' H' b (g.trans g') p'⟩⟩) hx⟩
  refine isTrue_plain (thn (he.pe.run pins s σ H _ I h) fun v s1 ⟨x, H1, I1, r1, ⟨p, dx, fs, ex, h1⟩, q1⟩ => ?_) (ht _)
  subst ex
  cases r1
  obtain ⟨ox, od, J⟩ := inst_at I1 h1
  obtain ⟨m, hF⟩ := I1.fr
  refine PySem.W.truthy_K hF I1.ok.mod.kin J hs hf ?_
  refine thn (own_run (vs := [.ref p]) hr rfl F hb I1 (.cons rfl .nil) q1) fun v s' z => ?_
  obtain ⟨z, H', I', r, b, rfl, q⟩ := z
  cases r
  exact ⟨H', I', q⟩
end
end Ty

set_option Elab.async false
set_option linter.all false
set_option maxRecDepth 100000
set_option maxHeartbeats 4000000
set_option autoImplicit false
/-! Ty, part H: ranges as values, f-strings, bool and not of own instances, reflected operators -/
namespace Ty
open PySem PySem.Spec PyProof.Rows L2
/-- a range object -/
structure Rg where
  lo : Int
  hi : Int
instance rpR : Rp Rg := ⟨fun _ G v m => ∃ a, v = .ref a ∧ G a = some (.rng m.lo m.hi), fun e h => by
  obtain ⟨a, h1, h2⟩ := h
  exact ⟨a, h1, e _ _ h2⟩⟩
section
variable {X : Cx}
abbrev rRng2 : List V → Hp → VK → Prop := fun vs H Q => ∃ i j, vs = [V.int i, V.int j] ∧ ∀ p, H p = none → Q (.ref p) (upd H p (.rng i j))
theorem rng_2 : CallW X (.type "range") (as2 rpI rpI) rpR rRng2 (fun x post _ => post ⟨x.1, x.2.1⟩) :=
  ⟨cr_range2, fun rs G H vs x post ep Q w ha φ k => by
    obtain ⟨v, u, rfl, rfl, rfl⟩ := two2 ha
    refine ⟨x.1, x.2.1, rfl, fun p hp => ?_⟩
    have g := gr_new (o := .rng x.1 x.2.1) w hp
    exact k _ _ _ _ g ⟨p, rfl, upd_same⟩ φ⟩
def rLenR : List V → Hp → VK → Prop := fun xs H Q => ∃ a lo hi, xs = [.ref a] ∧ H a = some (.rng lo hi) ∧ hi - lo < 2 ^ 63 ∧ Q (.int (max 0 (hi - lo))) H
theorem size1 (lo hi : Int) : Builtin.Range.rangeSize lo hi 1 = max 0 (hi - lo) := by
  unfold Builtin.Range.rangeSize
  simp
  try omega
theorem call_lenR : CallR X (.builtin "len") rLenR := by
  intro pins s σ H xs us Q I r h
  obtain ⟨a, lo, hi, rfl, ha, hb, q⟩ := h
  obtain ⟨u, rfl, ru⟩ := vals1 r
  cases ru
  obtain ⟨t, u, v, hr⟩ := I.hok a _ ha
  refine call_len_range (n := (max 0 (hi - lo)).toNat) (a := lo) (b := hi) (c := 1) (t := t) (u := u) (v := v) hr ?_ (by omega) ?_
  · rw [size1]
    omega
  · have e : (((max 0 (hi - lo)).toNat : Nat) : Int) = max 0 (hi - lo) := by omega
    rw [e]
    exact ⟨.int (max 0 (hi - lo)), H, I.tok _, ⟨_, rfl⟩, q⟩
theorem len_R : CallW X (.builtin "len") (as1 rpR) rpI rLenR (fun x post _ => x.1.hi - x.1.lo < 2 ^ 63 ∧ post (max 0 (x.1.hi - x.1.lo))) :=
  ⟨call_lenR, fun rs G H vs x post ep Q w ha φ k => by
    obtain ⟨v, rfl, a, rfl, h⟩ := one1 ha
    exact ⟨a, x.1.lo, x.1.hi, rfl, w.s _ _ h, φ.1, k G H _ _ (Gr.refl w) rfl φ.2⟩⟩
end
/-! ### f-strings -/
section
variable {X : Cx} {c : Cn} {ρ : List Sl} {e : Expr} {te : TE} {pos : Pos}
theorem e_fmtI {Φ : Pt Int} (he : JE X c e ρ rpI te Φ) : JE X c (.FormattedValue e (-1) none pos) ρ rpS (tFmt te) (fun post ep => Φ (fun n => n.natAbs.log2 < 1920 ∧ post (toString n)) ep) :=
  ⟨pe_fmt he.pe, fun post ep φ G H σ w E Q k hx => he.sem _ _ φ G H σ w E _ (fun G1 H1 v m g r p => .inr ⟨m, r, p.1, k G1 H1 _ _ g rfl p.2⟩) hx⟩
theorem e_fmtS {Φ : Pt Str} (he : JE X c e ρ rpS te Φ) : JE X c (.FormattedValue e (-1) none pos) ρ rpS (tFmt te) (fun post ep => Φ (fun n => n.length ≤ sizeLine ∧ post n) ep) :=
  ⟨pe_fmt he.pe, fun post ep φ G H σ w E Q k hx => he.sem _ _ φ G H σ w E _ (fun G1 H1 v m g r p => .inl ⟨m, r, p.1, k G1 H1 _ _ g rfl p.2⟩) hx⟩
structure JF (X : Cx) (c : Cn) (es : List Expr) (ρ : List Sl) (ts : List TE) (Φ : Str → Pt Str) : Prop where
  pe : PJ X es ts
  sem : ∀ acc post ep, Φ acc post ep → ∀ G H σ, Wd c.rs G H → En X.K c.rs c.H0 G H σ ρ → ∀ Q : Str → Hp → Prop, (∀ G' H' m, Gr c.rs G H G' H' → post m → Q m H') → XOk X c G H σ ep → tJs ts acc σ H Q
theorem f_nil : JF X c [] ρ [] (fun acc post _ => post acc) := ⟨.nil, fun acc post ep φ G H σ w E Q k hx => k G H acc (Gr.refl w) φ⟩
theorem f_cons {es : List Expr} {ts : List TE} {Φe : Pt Str} {Φr : Str → Pt Str} (he : JE X c e ρ rpS te Φe) (hr : JF X c es ρ ts Φr) : JF X c (e :: es) ρ (te :: ts) (fun acc post ep => Φe (fun y => (acc ++ y).length ≤ sizeLine ∧ Φr (acc ++ y) post ep) ep) :=
  ⟨.cons he.pe hr.pe, fun acc post ep φ G H σ w E Q k hx => he.sem _ _ φ G H σ w E _ (fun G1 H1 v m g r p => ⟨m, r, p.1, hr.sem _ _ _ p.2 G1 H1 σ g.w (E.up g) _ (fun G2 H2 n g2 q => k G2 H2 n (g.trans g2) q) (hx.up g)⟩) hx⟩
theorem e_fstr {v1 v2 : Expr} {rest : List Expr} {ts : List TE} {Φ : Str → Pt Str} (h : JF X c (v1 :: v2 :: rest) ρ ts Φ) : JE X c (.JoinedStr (v1 :: v2 :: rest) pos) ρ rpS (fun σ H Q => tJs ts Str.empty σ H fun out H1 => Q (.str out) H1) (Φ Str.empty) :=
  ⟨pe_joined h.pe, fun post ep φ G H σ w E Q k hx => h.sem _ _ _ φ G H σ w E _ (fun G1 H1 m g p => k G1 H1 _ m g rfl p) hx⟩
end
/-! ### own instances: bool(o), not o -/
section
variable {X : Cx} {k : Nat} {C f : Addr} {fd : FuncData} {ps : List Str} {α β γ : Type} {iα : Rp α} {iβ : Rp β} {iγ : Rp γ}
def tOwnNot (C : Addr) (sp : Sp) (te : TE) : TE := fun σ H Q => te σ H fun x H1 => IsI H1 C x ∧ sp [x] H1 (fun z H' => ∃ b, z = .bl b ∧ Q (.bl (!b)) H') E0
theorem e_notO {c : Cn} {ρ : List Sl} {e : Expr} {te : TE} {pos : Pos} {Φe : Pt α} {Φ : α × Unit → Pt Bool} (hα : InsR X.K iα C) (F : FnOk X.prog X.w X.K X.mg X.base (L2.CX X.prog X.w) k f fd ps (spOf X.K rs0 (as1 iα) rpB Φ)) (hb : Binds X.K fd ps []) (hr : Room k X.A)
    (hs : PySem.W.findIn X.K (.ref C) "__bool__" = some (some (.ref f))) (hf : PySem.W.isFn X.K (.ref f) = true) (he : JE X c e ρ iα te Φe) :
    JE X c (.UnaryOp .Not e pos) ρ rpB (tOwnNot C (spOf X.K rs0 (as1 iα) rpB Φ) te) (fun post ep => Φe (fun m => Φ (m, ()) (fun b => post (!b)) (fun _ => False)) ep) := by
  refine ⟨⟨fun pins s σ H Q I h => ?_⟩, fun post ep φ G H σ w E Q k hx => he.sem _ _ φ G H σ w E _ (fun G1 H1 v m g r p => ⟨hα.is g.w.s r, sp_use g.w (.cons (.val r) .nil) p fun G' H' z b g' r' p' => ⟨b, r', k G' H' _ (!b) (g.trans g') rfl p'⟩⟩) hx⟩
  refine UnaryOp_ (thn (he.pe.run pins s σ H _ I h) fun v s1 ⟨x, H1, I1, r1, ⟨p, dx, fs, ex, h1⟩, q1⟩ => ?_)
  subst ex
  cases r1
  obtain ⟨ox, od, J⟩ := inst_at I1 h1
  obtain ⟨m, hF⟩ := I1.fr
  refine not_of (PySem.W.truthy_K hF I1.ok.mod.kin J hs hf ?_)
  refine thn (own_run (vs := [.ref p]) hr rfl F hb I1 (.cons rfl .nil) q1) fun v s' z => ?_
  obtain ⟨z, H', I', r, b, rfl, q⟩ := z
  cases r
  exact ⟨.bl (!b), H', I', rfl, q⟩
end
end Ty

set_option Elab.async false
set_option linter.all false
set_option maxRecDepth 100000
set_option maxHeartbeats 1000000
set_option autoImplicit false
/-! Ty, part I: bool(o), n * o, isinstance, own dicts -/
namespace Ty
open PySem PySem.Spec PyProof.Rows L2

/-! ### bool(o) -/
section
variable {prog : Program} {w : World} {A : Around} {E : Value → Shared → Prop} {s : Shared}
theorem call_boolIn {x : Value} {S : PySem.Spec} {Q : Value → Shared → Prop} (g : MeetsIn prog w (Builtin.«bool.__new__» ⟨[.type "bool", x], []⟩) S) (h : S A.in1 (wants (fun obj s₁ => s₁.TypeIs obj "bool" ∧ Q obj s₁) E) s) :
    wpAny (model prog w) A (call (.type "bool") [x]) Q E s := by
  have ft := F.called_bool
  obtain ⟨c, tl, hmro⟩ := ft.mro
  have hmade := ft.made
  have hsub := ft.sub
  refine wpAny_call (codeAny_of_tree ?_)
  show wpAny _ _ (callAny (.type "bool") _) _ _ _
  refine wpAny_pure ⟨Code.quiet_builtin _ (by decide +kernel), codeAny_builtin F.entry_type_call ?_⟩
  rw [Around.under_plain (weight_type_call_type "bool" [x] []) (units_type_call_type "bool" [x] [])]
  have h1 := ft.notType
  have h2 := ft.canCreate
  have hct := F.typeCall_bool_1 x
  repeat (any_goals (first | assumption | wp_step))
  refine codeAny_mono (codeAny_call_builtin ft.plain F.entry_bool_new (wpAny_of_eq (F.newCall_bool_1 x) (g A.in1 _ s h))) fun r s₁ hr => ?_
  cases r with
  | error e => exact hr
  | ok fl =>
    cases fl with
    | ret obj =>
      obtain ⟨hT, hq⟩ := hr
      have hli := ft.init.lookup
      have hbi := ft.init.bind obj
      repeat (any_goals (first | assumption | wp_step))
      refine codeAny_mono (codeAny_call_builtin ft.init.plain F.entry_object_init (ft.init.check _ _ _ _ _ _ _ _ hT (F.args_object_init_2 obj x) (object_init_meets ft.init.lookup ft.made F.newNe_bool prog w A.in1 (wants (fun r s₂ => r = .none ∧ Q obj s₂) E) s₁ ⟨hT, rfl, hq⟩))) fun r₂ s₂ hr₂ => ?_
      cases r₂ with
      | error e => exact hr₂
      | ok fl₂ =>
        cases fl₂ with
        | ret r =>
          obtain ⟨rfl, hq⟩ := hr₂
          repeat (any_goals (first | assumption | wp_step))
        | _ => exact hr₂.elim
    | _ => exact hr.elim
theorem call_boolT {x : Value} {Q : Value → Shared → Prop} (hx : ∀ b, x ≠ .bool b) (h : wpAny (model prog w) A.in1.in1 (truthy x) (fun b s' => Q (.bool b) s') E s) : wpAny (model prog w) A (call (.type "bool") [x]) Q E s := by
  refine call_boolIn (S := fun A R s => wpAny (model prog w) A.in1 (truthy x) (fun b s' => R (.ok (.ret (.bool b))) s') (fun e s' => R (.error e) s') s) (MeetsIn.of_wp fun A R s hs => ?_) ?_
  · have f1 := F.conv_sub_bool
    unfold Builtin.«bool.__new__»
    refine wpAny_bind (m := isType (.type "bool")) (wpAny_of_eq rfl ?_)
    refine wpAny_bind (m := isSubtype (.type "bool") (.type "bool")) (wpAny_of_eq f1 ?_)
    refine wpAny_bind (m := someArgs "bool" 0 1 _) (wpAny_pure ?_)
    exact wpAny_bind (wpAny_mono hs (fun b s' q => wpAny_pure ⟨_, rfl, q⟩) fun _ _ z => z)
  · exact wpAny_mono h (fun b s' q => ⟨PySem.typeIs_bool _ _, q⟩) fun _ _ z => z
end

section
variable {X : Cx} {k : Nat} {C f : Addr} {fd : FuncData} {ps : List Str} {α β γ : Type} {iα : Rp α} {iβ : Rp β} {iγ : Rp γ}
def rOwnBool (C : Addr) (sp : Sp) : List V → Hp → VK → Prop := fun xs H Q => ∃ x, xs = [x] ∧ IsI H C x ∧ sp [x] H (fun z H' => ∃ b, z = .bl b ∧ Q (.bl b) H') E0
/-- bool(o) by __bool__ -/
theorem boolw_own {Φ : α × Unit → Pt Bool} (hα : InsR X.K iα C) (F : FnOk X.prog X.w X.K X.mg X.base (L2.CX X.prog X.w) k f fd ps (spOf X.K rs0 (as1 iα) rpB Φ)) (hb : Binds X.K fd ps []) (hr : Room (k + 2) X.A)
    (hs : PySem.W.findIn X.K (.ref C) "__bool__" = some (some (.ref f))) (hf : PySem.W.isFn X.K (.ref f) = true) :
    CallW X (.type "bool") (as1 iα) rpB (rOwnBool C (spOf X.K rs0 (as1 iα) rpB Φ)) (fun a post _ => Φ (a.1, ()) post (fun _ => False)) := by
  refine ⟨fun pins s σ H xs us Q I r h => ?_, fun rs G H vs x post ep Q w ha φ k => ?_⟩
  · obtain ⟨x, rfl, ⟨p, dx, fs, rfl, h1⟩, h⟩ := h
    obtain ⟨u, rfl, ru⟩ := vals1 r
    cases ru
    obtain ⟨ox, od, J⟩ := inst_at I h1
    obtain ⟨m, hF⟩ := I.fr
    refine call_boolT (fun _ z => nomatch z) (PySem.W.truthy_K hF I.ok.mod.kin J hs hf ?_)
    refine thn (own_run (vs := [.ref p]) (show Room k X.A.in1.in1 from (hr.in1).in1) rfl F hb I (.cons rfl .nil) h) fun v s' z => ?_
    obtain ⟨z, H', I', r, b, rfl, q⟩ := z
    cases r
    exact ⟨.bl b, H', I', rfl, q⟩
  · obtain ⟨v, rfl, hv⟩ := one1 ha
    exact ⟨v, rfl, hα.is w.s hv, sp_use w (.cons (.val hv) .nil) φ fun G' H' z m g r p => ⟨m, r, k G' H' _ m g rfl p⟩⟩
end

/-! ### n * o -/
theorem int_mul_inst (a : Int) (t : Tok) (p C dx : Addr) :
    Meets (Builtin.«int.__mul__» ⟨[.int a t, .ref p], []⟩) (fun _ R s => s.heap.get? p = some (PySem.W.instObj C dx) ∧ R (.ok (.ret Value.notImplemented)) s) :=
  .of_wp fun prog w A R s h => by obtain ⟨hp, g, d, tk, os⟩ := s; obtain ⟨hl, h⟩ := h; unfold PySem.W.instObj at hl; wp_walk; exact ⟨_, rfl, h⟩
section
open PySem.W PySem.Calls
variable {prog : Program} {w : World} {A : Around} {E : Value → Shared → Prop} {s : Shared} {K : PySem.W.Frag} {x C L f f' dx : Addr} {h₀ : Heap} {m : Str → Option Value} {od : Option Obj}
theorem int_mul_decl {n : Int} {t : Tok} {R : Shared → Prop} (hx : s.heap.get? x = some (PySem.W.instObj C dx)) (h : R s) :
    wpAny (model prog w) A (call (.builtin "int.__mul__") [.int n t, .ref x]) (fun v s' => v = .notImplemented ∧ R s') E s :=
  PySem.call_meets PySem.F.slot_int_mul (PySem.typeIs_int _ _ _) PySem.F.entry_int_mul (PySem.F.args_int_mul_2 _ _) (int_mul_inst n t x C dx) ⟨hx, rfl, h⟩
theorem int_mul_try {n : Int} {t : Tok} {R : Option Value → Shared → Prop} (hx : s.heap.get? x = some (PySem.W.instObj C dx)) (h : R none s) :
    wpAny (model prog w) A (tryMethod (.int n t) (PySem.dunder "mul") (.ref x)) R E s :=
  @PySem.wpAny_tryMethod_declines (model prog w) A E s (.int n t) (.ref x) "int" (PySem.dunder "mul") "int.__mul__" R (PySem.typeIs_int _ _ _) PySem.F.slot_int_mul (int_mul_decl (R := fun s' => R none s') hx h)
theorem refl_mul {n : Int} {t : Tok} {Q : Value → Shared → Prop} (F : Fr h₀ L s.heap m) (X₀ : K.In h₀) (J : InstAt s.heap x (PySem.W.instObj C dx) C od) (hc : selfFirst K C = true)
    (hm : PySem.W.findIn K (.ref C) (PySem.dunder "mul") = some (some (.ref f))) (hs : PySem.W.findIn K (.ref C) (dunderR "mul") = some (some (.ref f'))) (hf : PySem.W.isFn K (.ref f') = true) (hsub : subIn K (.ref C) (.type "int") = some false)
    (h : wpAny (model prog w) A (call (.ref f') [.ref x, .int n t]) (PySem.W.CmpBack Q) E s) : wpAny (model prog w) A (binaryOp .Mult (.int n t) (.ref x)) Q E s := by
  have X := X₀.keeps F.keep
  obtain ⟨cd, rest, hcd, hmr⟩ := ksp_first hc
  have one := ksp_try X J hs hf h
  have hx := J.at_
  obtain ⟨hh, gg, d, tt, os⟩ := s
  have L1 : Looks (model prog w) hh (typeOf (.ref x)) (.ref C) := J.type
  have L3 : Looks (model prog w) hh (fillsNumberSlot (.ref C) "mul") true := fills_K X hcd hmr hm
  have L4 : Looks (model prog w) hh (fillsNumberSlot (.type "int") "mul") true := Looks.of_pure PySem.F.fills_int_mul
  have L5 : Looks (model prog w) hh (isSubtype (.ref C) (.type "int")) false := looks_subIn X hsub
  have L7 : Looks (model prog w) hh (numberSlotInPython (.type "int") "mul") false := Looks.of_pure rfl
  have hne : (Value.type "int" == Value.ref C) = false := Bool.eq_false_iff.mpr fun q => by cases beq_iff_eq.mp q
  unfold binaryOp
  refine wpAny_holding (wpAny_bind ?_)
  show wpAny _ _ (binaryOp1 "mul" _ _) _ _ _
  unfold binaryOp1
  refine wpAny_bind (wpAny_of_eq (show typeOf (.int n t) = pure (.type "int") from rfl) (wpAny_bind (L1.at (wpAny_bind (L4.at ?_)))))
  simp only [hne, Bool.false_eq_true, if_false]
  refine wpAny_bind (L3.at ?_)
  simp only [Bool.and_self, if_true]
  refine wpAny_bind (L5.at ?_)
  simp only [Bool.false_eq_true, if_false]
  ksp_lk
  refine int_mul_try hx ?_
  show wpAny _ _ (tryMethod (Value.ref x) (dunderR "mul") (Value.int n t) >>= _) _ _ _
  refine wpAny_bind (wpAny_mono one (fun r s' hr' => ?_) fun _ _ e => e)
  obtain ⟨v, rfl, hq⟩ := hr'
  refine wpAny_bind (wpAny_rule (wpAny_pure ?_))
  exact wpAny_pure hq
end
section
variable {X : Cx} {k : Nat} {C f f' : Addr} {fd : FuncData} {ps : List Str} {α β γ : Type} {iα : Rp α} {iβ : Rp β} {iγ : Rp γ}
def rOwnR (C : Addr) (sp : Sp) : R2 := fun x y H Q => IsI H C y ∧ (∃ n, x = .int n) ∧ sp [y, x] H Q E0
/-- n * o by __rmul__ -/
theorem rmulw_own {Φ : α × Int × Unit → Pt γ} (hα : InsR X.K iα C) (F : FnOk X.prog X.w X.K X.mg X.base (L2.CX X.prog X.w) k f' fd ps (spOf X.K rs0 (as2 iα rpI) iγ Φ)) (hb : Binds X.K fd ps []) (hr : Room k X.A)
    (hsf : PySem.W.selfFirst X.K C = true) (hm : PySem.W.findIn X.K (.ref C) (PySem.dunder "mul") = some (some (.ref f))) (hs : PySem.W.findIn X.K (.ref C) (PySem.dunderR "mul") = some (some (.ref f'))) (hf : PySem.W.isFn X.K (.ref f') = true) (hsub : PySem.W.subIn X.K (.ref C) (.type "int") = some false) :
    OpW X (binaryOp .Mult) rpI iα iγ (rOwnR C (spOf X.K rs0 (as2 iα rpI) iγ Φ)) (fun a b post _ => Φ (b, a, ()) post (fun _ => False)) := by
  refine ⟨fun pins s σ H x y v u Q I rx ry h => ?_, fun rs G H x y a b post ep Q w hx hy φ k => ⟨hα.is w.s hy, ⟨a, hx⟩, sp_use w (.cons (.val hy) (.cons (.val hx) .nil)) φ k⟩⟩
  obtain ⟨⟨p, dx, fs, rfl, hp1⟩, ⟨n, rfl⟩, h⟩ := h
  obtain ⟨t, rfl⟩ := rx
  cases ry
  obtain ⟨mA, J, _⟩ := ins_get I.hok hp1
  obtain ⟨od, J, _⟩ := J.look
  obtain ⟨m, hF⟩ := I.fr
  refine refl_mul hF I.ok.mod.kin J hsf hm hs hf hsub ?_
  exact thn (own_run (vs := [.ref p, .int n]) hr rfl F hb I (.cons rfl (.cons ⟨t, rfl⟩ .nil)) h) fun v s' z => back_of z
end

/-! ### isinstance -/
/-- a class as an argument -/
def rpC (c : V) : Rp Unit := ⟨fun _ _ v _ => v = c, fun _ h => h⟩
def TyV (K : Fg) {α : Type} (i : Rp α) (t : Value) : Prop := ∀ (G H : Hp) (v : V) (m : α), Ex G H → i.rp K G v m → TyX K H v t
theorem tyI {K : Fg} : TyV K rpI (.type "int") := fun G H v m e h => by
  obtain rfl : v = .int m := h
  exact .base (.int m)
theorem tyB {K : Fg} : TyV K rpB (.type "bool") := fun G H v m e h => by
  obtain rfl : v = .bl m := h
  exact .base (.bl m)
theorem tyS {K : Fg} : TyV K rpS (.type "str") := fun G H v m e h => by
  obtain rfl : v = .str m := h
  exact .base (.str m)
theorem tyN {K : Fg} : TyV K rpN (.type "NoneType") := fun G H v m e h => by
  obtain rfl : v = .non := h
  exact .base .non
theorem tyL {K : Fg} {α : Type} {i : Rp α} : TyV K (rpL (i := i)) (.type "list") := fun G H v m e h => by
  obtain ⟨a, vs, rfl, h1, _⟩ := h
  exact .base (.lst (e _ _ h1))
theorem tySqT {K : Fg} {G H : Hp} {a : Addr} {xs : List V} (e : Ex G H) (h : SqT K G a xs) : TyX K H (.ref a) (.type "tuple") := by
  rcases e.st h with (h | ⟨o, h⟩) | ⟨o, its, n, h1, h2, _⟩
  · exact .base (.tup h)
  · exact .fTuple h
  · exact .kTuple h1 h2
theorem tyT {K : Fg} {α : Type} {i : Rp α} : TyV K (rpT (i := i)) (.type "tuple") := fun G H v m e h => by
  obtain ⟨a, vs, rfl, h1, _⟩ := h
  exact tySqT e h1
theorem ty2 {K : Fg} {α β : Type} {i : Rp α} {j : Rp β} : TyV K (rp2 (i := i) (j := j)) (.type "tuple") := fun G H v m e h => by
  obtain ⟨a, x, y, rfl, h1, _⟩ := h
  exact tySqT e h1
structure OwnC (K : Fg) (C : Addr) : Prop where
  cl : Cls K C
  ha : PySem.W.findIn K (.ref C) "__class__" = some (some (.builtin "object.__class__"))
  hn : PySem.W.specialIn K (.builtin "object.__class__") "__get__" = some (some (.builtin "getset_descriptor.__get__"))
  ht : PySem.W.takesIn K (.builtin "object.__class__") = some true
  hm : PySem.W.mroIn K C (.type "object") = some true
theorem tyO {K : Fg} {α : Type} {i : Rp α} {C : Addr} (hi : InsR K i C) (o : OwnC K C) : TyV K i (.ref C) := fun G H v m e h => by
  obtain ⟨p, dx, fs, rfl, h1⟩ := hi G v m h
  exact .base (.ins (e _ _ h1) o.cl o.ha o.hn o.ht o.hm)
section
variable {X : Cx} {c : Cn} {ρ : List Sl} {α : Type} {iα : Rp α} {pos : Pos}
theorem isiw {t u : Value} {cv : V} {b : Bool} (ht : TyV X.K iα t) (hc : ClsV cv u) (hk : PySem.W.kitOne X.K t u = some b) : CallW X (.builtin "isinstance") (as2 iα (rpC cv)) rpB (rIsi X.K) (fun x post _ => post b) :=
  ⟨call_isi, fun rs G H vs x post ep Q w ha φ k => by
    obtain ⟨v, v2, rfl, h1, h2⟩ := two2 ha
    obtain rfl : v2 = cv := h2
    exact ⟨v, v2, t, u, b, rfl, hc, ht _ _ _ _ w.s h1, hk, k G H _ _ (Gr.refl w) rfl φ⟩⟩
theorem e_clsB {x : Str} {n : String} (hm : X.mg x = none) (hv : bootBuiltins x = some (.type n) := by decide +kernel) (hg : Gl X x := by rfl) (hn : x ≠ "__name__" := by decide) (hd : (x == ("__debug__" : Str)) = false := by decide) : JE X c (.Name x pos) ρ (rpC (.ty n)) (tC (.ty n)) (fun post _ => post ()) :=
  ⟨pe_bltn hg hm hv rfl hn hd, fun post ep φ G H σ w E Q k hx => k G H _ _ (Gr.refl w) rfl φ⟩
theorem e_clsO {x : Str} {C : Addr} (hm : X.mg x = some (.ref C)) (hg : Gl X x := by rfl) (hd : (x == ("__debug__" : Str)) = false := by decide) : JE X c (.Name x pos) ρ (rpC (.ref C)) (tC (.ref C)) (fun post _ => post ()) :=
  e_glob hm rfl (fun _ => rfl) hg hd
end

/-! ### own dicts -/
class KeyW (α : Type) (i : Rp α) where
  key : α → Key
  out : ∀ {K : Fg} {G : Hp} {v : V} {m : α}, i.rp K G v m → v = kV (key m)
instance : KeyW Int rpI := ⟨Sum.inl, fun h => h⟩
instance : KeyW Str rpS := ⟨Sum.inr, fun h => h⟩
def valM {α : Type} (kvs : List (Key × α)) (k : Key) : Option α := (kvs.find? fun kv => decide (kv.1 = k)).map (·.2)
def putM {α : Type} (kvs : List (Key × α)) (k : Key) (v : α) : List (Key × α) :=
  if (kvs.any fun kv => decide (kv.1 = k)) = true then kvs.map (fun kv => if kv.1 = k then (kv.1, v) else kv) else kvs ++ [(k, v)]
section
variable {α : Type} {i : Rp α} {K : Fg} {G : Hp}
theorem KvAll.any (k : Key) : ∀ {vs : List (Key × V)} {ms : List (Key × α)}, KvAll i K G vs ms → (vs.any fun kv => decide (kv.1 = k)) = ms.any fun kv => decide (kv.1 = k)
  | _, _, .nil => rfl
  | _, _, .cons h t => by rw [List.any_cons, List.any_cons, KvAll.any k t, h.1]
theorem KvAll.val (k : Key) : ∀ {vs : List (Key × V)} {ms : List (Key × α)}, KvAll i K G vs ms → (valV vs k = none ∧ valM ms k = none) ∨ ∃ v m, valV vs k = some v ∧ valM ms k = some m ∧ i.rp K G v m
  | _, _, .nil => .inl ⟨rfl, rfl⟩
  | (a, x) :: vs, (b, y) :: ms, .cons h t => by
    obtain ⟨h1, h2⟩ := h
    obtain rfl : a = b := h1
    unfold valV valM
    rw [List.find?_cons, List.find?_cons]
    by_cases e : a = k
    · simp only [decide_eq_true e]
      exact .inr ⟨x, y, rfl, rfl, h2⟩
    · simp only [decide_eq_false e]
      exact KvAll.val k t
theorem KvAll.map (k : Key) {v : V} {m : α} (hv : i.rp K G v m) : ∀ {vs : List (Key × V)} {ms : List (Key × α)}, KvAll i K G vs ms → KvAll i K G (vs.map fun kv => if kv.1 = k then (kv.1, v) else kv) (ms.map fun kv => if kv.1 = k then (kv.1, m) else kv)
  | _, _, .nil => .nil
  | (a, x) :: vs, (b, y) :: ms, .cons h t => by
    obtain ⟨h1, h2⟩ := h
    obtain rfl : a = b := h1
    refine .cons ?_ (KvAll.map k hv t)
    by_cases e : a = k
    · simp only [if_pos e]
      exact ⟨trivial, hv⟩
    · simp only [if_neg e]
      exact ⟨trivial, h2⟩
theorem KvAll.append : ∀ {vs us : List (Key × V)} {ms ns : List (Key × α)}, KvAll i K G vs ms → KvAll i K G us ns → KvAll i K G (vs ++ us) (ms ++ ns)
  | _, _, _, _, .nil, h => h
  | _, _, _, _, .cons a t, h => .cons a (KvAll.append t h)
theorem KvAll.put {k : Key} {v : V} {m : α} {vs : List (Key × V)} {ms : List (Key × α)} (h : KvAll i K G vs ms) (hv : i.rp K G v m) : KvAll i K G (putK vs k v) (putM ms k m) := by
  unfold putK putM
  rw [h.any k]
  split
  · exact h.map k hv
  · exact h.append (.cons ⟨rfl, hv⟩ .nil)
theorem KvAll.keys : ∀ {vs : List (Key × V)} {ms : List (Key × α)}, KvAll i K G vs ms → vs.map (·.1) = ms.map (·.1)
  | _, _, .nil => rfl
  | _, _, .cons h t => by rw [List.map_cons, List.map_cons, KvAll.keys t, h.1]
end
section
variable {X : Cx} {c : Cn} {ρ : List Sl} {S L β α κ : Type} {out : S → List Sl} {lp : L → List Sl} {i : Rp β} {iα : Rp α} {iκ : Rp κ} {pos : Pos} {rest : List Stmt} {tr : TS} {e : Expr} {te : TE} {Φe : Pt α}
/-- x = {} -/
theorem b_newD (iα : Rp α) (j : Nat) {x : Str} {px p1 : Pos} {Φr : Pt (Out S L β)} (hN : X.N.Nodup) (hr : JB X c rest (ρ.set j (.md iα [])) out lp i tr Φr) (hj : X.N[j]? = some x := by rfl) (hx : Loc X.env.scope x := by first | exact Or.inl rfl | exact Or.inr rfl)
    (hs : swapsWith (.Dict [] [] p1) (some (.Name x px)) pos.line X.env = pure false := by rfl) (hf : X.fn x = true ∨ X.env.scope.names.lookup x = some .local := by first | exact .inl rfl | exact .inr rfl) :
    JB X c (.Assign [.Name x px] (.Dict [] [] p1) pos :: rest) ρ out lp i (tSeq (tAsg tDNewK (gName j)) tr) Φr := by
  refine ⟨pss_cons (ps_set hN hj hx pe_dnewK hs hf) hr.pe, fun post ep φ G H σ g E D k hx => ?_⟩
  refine fun p hp => ?_
  have gn := gr_newH (o := .dK []) g.w hp
  have h0 : c.H0 p = none := by
    by_cases q : c.H0 p = none
    · exact q
    · exact absurd hp (g.t p q)
  have hg : G p = none := by
    cases e : G p with
    | none => rfl
    | some u =>
      have := g.w.s p u e
      rw [hp] at this
      cases this
  refine hr.sem _ _ φ G _ _ (g.trans gn) ((E.up gn).setOwn (x := .md iα []) ⟨p, [], rfl, upd_same, .nil, h0, hg, not_new g.w hp⟩ fun q y _ ey oy sy => ?_) D k hx
  exact absurd hp (E.own_some ey oy sy)
/-- x[k] = e -/
theorem b_putD {ke : Expr} {tk : TE} {Φk : Pt κ} [kw : KeyW κ iκ] [Nonempty α] [Nonempty κ] {xs : List (Key × α)} (j : Nat) {x : Str} {px pa : Pos} {Φr : α → κ → Pt (Out S L β)} (hρ : ρ[j]? = some (.md iα xs)) (hu : X.A.units + 1 < cLine) (he : JE X c e ρ iα te Φe) (hk : JE X c ke ρ iκ tk Φk)
    (hr : ∀ m k, JB X c rest (ρ.set j (.md iα (putM xs (kw.key k) m))) out lp i tr (Φr m k)) (hN : X.N[j]? = some x := by rfl) (hv : Vis X.env.scope x := by first | exact Or.inl rfl | exact Or.inr (Or.inl rfl) | exact Or.inr (Or.inr rfl)) (hd : (x == ("__debug__" : Str)) = false := by decide) (hcd : (x == ("__classdict__" : Str)) = false := by decide)
    (hs : swapsWith e (some (.Subscript (.Name x px) ke pa)) pos.line X.env = pure false := by rfl) :
    JB X c (.Assign [.Subscript (.Name x px) ke pa] e pos :: rest) ρ out lp i (tSeq (sDPut (tVar j) tk te) tr) (fun post ep => Φe (fun m => Φk (fun k => xs.length < sizeLine ∧ Φr m k post ep) ep) ep) := by
  refine ⟨pss_cons (ps_dput hu (pe_var hN hv hd hcd) hk.pe he.pe hs) (hr (Classical.choice inferInstance) (Classical.choice inferInstance)).pe, fun post ep φ G H σ g E D k hx => ?_⟩
  refine he.sem _ _ φ G H σ g.w E _ (fun G1 H1 v m g1 r p => ?_) (hx.at g)
  obtain ⟨l, vs, h1, h2, h3, h4, h5, h6⟩ := (E.up g1).ok j _ hρ
  refine ⟨.ref l, h1, ?_⟩
  refine hk.sem _ _ p G1 H1 σ g1.w (E.up g1) _ (fun G2 H2 kv km g2 r2 p2 => ?_) (hx.at (g.trans g1))
  have g12 := g1.trans g2
  obtain ⟨l', vs', h1', h2', h3', h4', h5', h6'⟩ := (E.up g12).ok j _ hρ
  rw [h1] at h1'
  cases h1'
  obtain rfl := kw.out r2
  have hlen := h3'.length
  refine ⟨l, _, rfl, DPut.k h2' (by rw [hlen]; exact p2.1), ?_⟩
  have gm := gr_mut (o := .dK (putK vs' (kw.key km) v)) (g.trans g12) h4' h5' h6' (some_ne h2')
  have es : ∀ a, c.rs.S H2 a → upd H2 l (.dK (putK vs' (kw.key km) v)) a = H2 a := fun a ha => upd_ne fun z => h6' (z ▸ ha)
  refine (hr m km).sem _ _ p2.2 G2 _ σ gm ((E.up g12).mut g12.w hρ rfl h1 h2' h6' (fun a z => by cases z) (x := .md iα (putM xs (kw.key km) m)) ⟨l, putK vs' (kw.key km) v, rfl, upd_same, h3'.put (Rp.mono g2.g r), h4', h5', fun z => h6' (((c.rs.loc g12.w.i es).2 l).mp z)⟩) D (k.up g12.g) hx
/-- k in x, x an own dict -/
theorem e_inD {ke : Expr} {tk : TE} {Φk : Pt κ} [kw : KeyW κ iκ] {xs : List (Key × α)} {px : Pos} (j : Nat) {x : Str} (hρ : ρ[j]? = some (.md iα xs)) (hu : X.A.units + 1 < cLine) (hk : JE X c ke ρ iκ tk Φk) (hN : X.N[j]? = some x := by rfl) (hv : Vis X.env.scope x := by first | exact Or.inl rfl | exact Or.inr (Or.inl rfl) | exact Or.inr (Or.inr rfl))
    (hd : (x == ("__debug__" : Str)) = false := by decide) (hcd : (x == ("__classdict__" : Str)) = false := by decide) (h1 : behindInMarks .In (.Name x px) = false := by rfl) : JE X c (.Compare ke [.In] [.Name x px] pos) ρ rpB (tDIn tk (tVar j)) (fun post ep => Φk (fun k => post (valM xs (kw.key k)).isSome) ep) := by
  refine ⟨pe_cmp (pc_din hu hk.pe (pe_var hN hv hd hcd)) h1, fun post ep φ G H σ w E Q k hx => ?_⟩
  refine hk.sem _ _ φ G H σ w E _ (fun G1 H1 v m g r p => ?_) hx
  obtain ⟨l, vs, h1, h2, h3, h4, h5, h6⟩ := (E.up g).ok j _ hρ
  obtain rfl := kw.out r
  refine ⟨.ref l, h1, l, valV vs (kw.key m), rfl, DGet.k h2, k _ _ _ _ g ?_ p⟩
  rcases h3.val (kw.key m) with ⟨e1, e2⟩ | ⟨v, u, e1, e2, _⟩
  · show V.bl _ = V.bl _
    rw [e1, e2]; rfl
  · show V.bl _ = V.bl _
    rw [e1, e2]; rfl
/-- sorted(x) of an own dict's ints -/
def rSrtD : List V → Hp → VK → Prop := fun xs H Q => ∃ (a : Addr) (kvs : List (Key × V)) (ks : List Int), xs = [.ref a] ∧ Rd H a (.dK kvs) ∧ kvs.map (·.1) = ks.map Sum.inl ∧ ks.length < 64 ∧
    ∀ (ys : List Int) (p : Addr), ys.Perm ks → ys.Pairwise (· ≤ ·) → H p = none → Q (.ref p) (upd H p (.lst (ys.map V.int)))
theorem rp_ints {K : Fg} {G : Hp} : ∀ ns : List Int, RpAll rpI K G (ns.map V.int) ns
  | [] => .nil
  | n :: ns => .cons rfl (rp_ints ns)
theorem e_srtD {xs : List (Key × α)} {p px : Pos} (j : Nat) {x : Str} (hρ : ρ[j]? = some (.md iα xs)) (hc : X.calm = true) (hm : X.mg "sorted" = none) (hN : X.N[j]? = some x := by rfl) (hv : Vis X.env.scope x := by first | exact Or.inl rfl | exact Or.inr (Or.inl rfl) | exact Or.inr (Or.inr rfl))
    (hd : (x == ("__debug__" : Str)) = false := by decide) (hcd : (x == ("__classdict__" : Str)) = false := by decide) (hbv : bootBuiltins "sorted" = some (.builtin "sorted") := by decide +kernel) (hg : Gl X "sorted" := by rfl)
    (he : starEach [.Name x px] X.env = [(false, eval (.Name x px) X.env)] := by rfl) (hpl : (backTo pos (starEach ([] : List Expr) X.env)).any (·.1) = false := by rfl) :
    JE X c (.Call (.Name "sorted" p) [.Name x px] [] pos) ρ (rpL (i := rpI)) (tCB rSrtD (tCons (tVar j) tNil)) (fun post _ => ∃ ks : List Int, xs.map (·.1) = ks.map Sum.inl ∧ ks.length < 64 ∧ ∀ ys : List Int, ys.Perm ks → ys.Pairwise (· ≤ ·) → post ys) := by
  refine ⟨pe_callB (call_sortedDI hc) hg hm hbv (pa_cons (pe_var hN hv hd hcd) pa_nil he) (by decide) (by decide) he hpl, fun post ep φ G H σ w E Q k hx => ?_⟩
  obtain ⟨l, vs, h1, h2, h3, h4, h5, h6⟩ := E.ok j _ hρ
  obtain ⟨ks, e1, e2, φ⟩ := φ
  refine ⟨.ref l, h1, l, vs, ks, rfl, .inl h2, h3.keys.trans e1, e2, fun ys p hp hs hn => ?_⟩
  have gn := gr_new (o := .lst (ys.map V.int)) w hn
  refine k _ _ _ _ gn ⟨p, _, rfl, upd_same, rp_ints ys, ?_⟩ (φ ys hp hs)
  rw [List.length_map, hp.length_eq, sizeLine_eq]
  omega
end
end Ty

set_option Elab.async false
set_option linter.all false
set_option maxRecDepth 100000
set_option maxHeartbeats 1000000
set_option autoImplicit false
/-! Bx: the law's script; the box [[cells], number, seed, count] of the laws k04, k05, k06 as a resource -/
namespace Ty
open PySem PySem.Spec PyProof.Rows L2

/-- the law's script -/
abbrev rpQ : Rp (List Int) := ⟨fun K G v ns => ∃ a, v = .ref a ∧ SqL K G a (ns.map V.int) ∧ ns.length ≤ sizeLine, fun e h => by
  obtain ⟨a, h1, h2, h3⟩ := h
  exact ⟨a, h1, e.sl h2, h3⟩⟩
theorem sl_Q {X : Cx} : SlW X rpQ (rpL (i := rpI)) (rSlL X.K) (fun xs lo hi post _ => post (cutL xs lo hi)) :=
  ⟨sl_list, fun rs G H x a lo hi post ep Q w r φ k => by
    obtain ⟨l, rfl, h1, h3⟩ := r
    refine ⟨l, _, rfl, w.s.sl h1, fun p hp => ?_⟩
    have g := gr_new (o := .lst (cutV (a.map V.int) lo hi)) w hp
    exact k _ _ _ _ g ⟨p, _, rfl, upd_same, RpAll.cut (rp_ints a) lo hi, Nat.le_trans (cutV_length _ _ _) (by rw [List.length_map]; exact h3)⟩ φ⟩

/-! ### the box -/
/-- a new box, known for good -/
abbrev rpBx : Rp Unit := ⟨fun _ G v _ => ∃ (p l : Addr) (x y z : Int) (ns : List Int), v = .ref p ∧ G p = some (.lst [.ref l, .int x, .int y, .int z]) ∧ G l = some (.lst (ns.map V.int)), fun e h => by
  obtain ⟨p, l, x, y, z, ns, h1, h2, h3⟩ := h
  exact ⟨p, l, x, y, z, ns, h1, e _ _ h2, e _ _ h3⟩⟩
theorem ints_of {K : Fg} {G : Hp} : ∀ {vs : List V} {ns : List Int}, RpAll rpI K G vs ns → vs = ns.map V.int
  | _, _, .nil => rfl
  | _, _, .cons h t => by
    rw [List.map_cons, ints_of t]
    have h2 : _ = V.int _ := h
    rw [h2]
theorem three3 {K : Fg} {G : Hp} {vs : List V} {α β γ : Type} {i : Rp α} {j : Rp β} {k : Rp γ} {m : α} {n : β} {o : γ} (h : ArgsOk K G vs [.val i m, .val j n, .val k o]) : ∃ v u z, vs = [v, u, z] ∧ i.rp K G v m ∧ j.rp K G u n ∧ k.rp K G z o := by
  cases h with
  | cons h t =>
    obtain ⟨u, z, rfl, h2, h3⟩ := two2 t
    cases h with
    | val h => exact ⟨_, u, z, rfl, h, h2, h3⟩
theorem e_bx {X : Cx} {c : Cn} {ρ : List Sl} {es : List Expr} {t : TA} {pos : Pos} {Φ : Pt (List Int × Int × Int × Int × Unit)} (h : JA X c es ρ (aCons (rpL (i := rpI)) (aCons rpI (aCons rpI (aCons rpI aNil)))) t Φ) : JE X c (.List es pos) ρ rpBx (tLst t) (fun post ep => Φ (fun _ => post ()) ep) := by
  refine ⟨pe_lst h.pe, fun post ep φ G H σ w E Q k hx => h.sem _ _ φ G H σ w E _ (fun G1 H1 vs x g1 r1 p => ?_) hx⟩
  obtain ⟨xl, x1, x2, x3, u⟩ := x
  cases r1 with
  | cons a r1 =>
    obtain ⟨v1, v2, v3, rfl, rfl, rfl, rfl⟩ := three3 (i := rpI) (j := rpI) (k := rpI) r1
    cases a with
    | val a =>
      obtain ⟨l, ws, rfl, e1, e2, e3⟩ := a
      rw [ints_of e2] at e1
      refine ⟨by rw [sizeLine_eq]; simp, fun q hq => ?_⟩
      have g := gr_new (o := .lst [.ref l, .int x1, .int x2, .int x3]) g1.w hq
      exact k _ _ _ _ (g1.trans g) ⟨q, l, x1, x2, x3, xl, rfl, upd_same, g.g _ _ e1⟩ p

/-- the resource -/
def bxS (q : Addr) (H : Hp) (a : Addr) : Prop := a = q ∨ ∃ t, H q = some (.lst (.ref a :: t))
def bxI (q : Addr) (H : Hp) : Prop := ∃ (l : Addr) (x y z : Int) (ns : List Int), H q = some (.lst [.ref l, .int x, .int y, .int z]) ∧ H l = some (.lst (ns.map V.int))
def rsB (q : Addr) : Rs := ⟨bxS q, bxI q, by
  intro H H' i k
  obtain ⟨l, x, y, z, ns, h1, h2⟩ := i
  have e1 : H' q = H q := k q (.inl rfl)
  have e2 : H' l = H l := k l (.inr ⟨_, h1⟩)
  refine ⟨⟨l, x, y, z, ns, e1.trans h1, e2.trans h2⟩, fun a => ?_⟩
  unfold bxS
  rw [e1], by
  intro H a i s
  obtain ⟨l, x, y, z, ns, h1, h2⟩ := i
  rcases s with rfl | ⟨t, s⟩
  · exact some_ne h1
  · rw [h1] at s
    cases s
    exact some_ne h2⟩
theorem gr_bx {q l : Addr} {G H H' : Hp} {x y z : Int} {ns : List Int} (w : Wd (rsB q) G H) (hq : H' q = some (.lst [.ref l, .int x, .int y, .int z])) (hl : H' l = some (.lst (ns.map V.int))) (hn : bxS q H l ∨ H l = none)
    (keep : ∀ a o, a ≠ q → H a = some o → H' a = some o) : Gr (rsB q) G H G H' := by
  have nG : ∀ a, bxS q H a ∨ H a = none → G a = none := fun a h => by
    rcases h with h | h
    · exact w.n a h
    · cases e : G a with
      | none => rfl
      | some u =>
        have := w.s a u e
        rw [h] at this
        cases this
  have fS : ∀ a, bxS q H' a → bxS q H a ∨ H a = none := fun a s => by
    rcases s with rfl | ⟨t, s⟩
    · exact .inl (.inl rfl)
    · rw [hq] at s
      cases s
      exact hn
  refine ⟨Ex.refl _, fun a o hs e => keep a o (fun z => hs (.inl z)) e, fun a e => ?_, fun a _ h => h, fS, ⟨fun a o e => ?_, ⟨l, x, y, z, ns, hq, hl⟩, fun a s => nG a (fS a s)⟩⟩
  · by_cases z : a = q
    · rw [z]
      exact some_ne hq
    · cases e2 : H a with
      | none => exact absurd e2 e
      | some o => exact some_ne (keep a o z e2)
  · refine keep a o (fun z => ?_) (w.s a o e)
    rw [z, nG q (.inl (.inl rfl))] at e
    cases e
section
variable {X : Cx} {c : Cn} {ρ : List Sl} {q : Addr} {x : Str} {px pk pos : Pos}
/-- box[k] of a number -/
theorem e_bxI {k : Int} {jj : Nat} (j : Nat) (hc : c.rs = rsB q) (hρ : ρ[j]? = some (.rf q)) (hk : k = 1 ∨ k = 2 ∨ k = 3) (hN : X.N[j]? = some x := by rfl) (hv : Vis X.env.scope x := by first | exact Or.inl rfl | exact Or.inr (Or.inl rfl) | exact Or.inr (Or.inr rfl))
    (hd : (x == ("__debug__" : Str)) = false := by decide) (hcd : (x == ("__classdict__" : Str)) = false := by decide) (hs : PlainIxT (.Constant (.int k) jj pk) := by exact fun _ _ => rfl) : JE X c (.Subscript (.Name x px) (.Constant (.int k) jj pk) pos) ρ rpI (tOp (rIxL X.K) (tVar j) (tC (.int k))) (fun post _ => ∀ n : Int, post n) := by
  refine ⟨pe_ix ix_list (pe_var hN hv hd hcd) pe_int hs, fun post ep φ G H σ w E Q kk hx => ?_⟩
  have I := w.i
  rw [hc] at I
  obtain ⟨l, a, b, d, ns, h1, h2⟩ := I
  refine ⟨.ref q, E.ok j _ hρ, ?_⟩
  rcases hk with rfl | rfl | rfl
  · exact ⟨q, _, 1, .int a, rfl, rfl, SqL.of h1, rfl, kk G H _ a (Gr.refl w) rfl (φ a)⟩
  · exact ⟨q, _, 2, .int b, rfl, rfl, SqL.of h1, rfl, kk G H _ b (Gr.refl w) rfl (φ b)⟩
  · exact ⟨q, _, 3, .int d, rfl, rfl, SqL.of h1, rfl, kk G H _ d (Gr.refl w) rfl (φ d)⟩
variable {S L β : Type} {out : S → List Sl} {lp : L → List Sl} {i : Rp β} {rest : List Stmt} {tr : TS} {e : Expr} {te : TE} {Φe : Pt Int} {Φr : Pt (Out S L β)} {ps : Pos}
/-- box[k] = a number -/
theorem b_bxSet {k : Int} {jj : Nat} (j : Nat) (hc : c.rs = rsB q) (hρ : ρ[j]? = some (.rf q)) (hk : k = 1 ∨ k = 2 ∨ k = 3) (he : JE X c e ρ rpI te Φe) (hr : JB X c rest ρ out lp i tr Φr) (hN : X.N[j]? = some x := by rfl) (hv : Vis X.env.scope x := by first | exact Or.inl rfl | exact Or.inr (Or.inl rfl) | exact Or.inr (Or.inr rfl))
    (hd : (x == ("__debug__" : Str)) = false := by decide) (hcd : (x == ("__classdict__" : Str)) = false := by decide)
    (ha : ∀ v, assign (.Subscript (.Name x px) (.Constant (.int k) jj pk) pos) X.env v = (do
      let ov ← holding [v] (eval (.Name x px) X.env)
      let iv ← holding [v, ov] (eval (.Constant (.int k) jj pk) X.env)
      standAt pos
      holding [v, ov, iv] (setItem ov iv v)
      release [v, ov, iv] []) := by intro _; rfl)
    (hs : swapsWithSole [.Subscript (.Name x px) (.Constant (.int k) jj pk) pos] e ps.line X.env = pure false := by rfl) (hw : swappedStores [.Subscript (.Name x px) (.Constant (.int k) jj pk) pos] e X.env = pure none := by rfl)
    (hE : (assignEach [.Subscript (.Name x px) (.Constant (.int k) jj pk) pos] X.env).map (·.2) = [assign (.Subscript (.Name x px) (.Constant (.int k) jj pk) pos) X.env] := by rfl) :
    JB X c (.Assign [.Subscript (.Name x px) (.Constant (.int k) jj pk) pos] e ps :: rest) ρ out lp i (tSeq (tAsg te (gSub (tVar j) (tC (.int k)) rSetL)) tr) (fun post ep => Φe (fun _ => Φr post ep) ep) := by
  refine ⟨pss_cons (ps_asg he.pe (pg_sub (pe_var hN hv hd hcd) pe_int set_list ha) hs hw hE) hr.pe, fun post ep φ G H σ g E D k hx => ?_⟩
  refine he.sem _ _ φ G H σ g.w E _ (fun G1 H1 v m g1 r p => ?_) (hx.at g)
  obtain rfl : v = .int m := r
  have w1 : Wd (rsB q) G1 H1 := hc ▸ g1.w
  obtain ⟨l, a, b, d, ns, h1, h2⟩ := w1.i
  have lq : l ≠ q := fun z => by
    rw [z, h1] at h2
    have h3 := Option.some.inj h2
    injection h3 with h3
    cases ns with
    | nil => cases h3
    | cons n ns => cases h3
  have fin : ∀ a' b' d' : Int, tr D σ (upd H1 q (.lst [.ref l, .int a', .int b', .int d'])) := fun a' b' d' => by
    have gb : Gr c.rs G1 H1 G1 (upd H1 q (.lst [.ref l, .int a', .int b', .int d'])) := hc ▸ gr_bx (l := l) (ns := ns) w1 upd_same (by rw [upd_ne lq]; exact h2) (.inl (.inr ⟨_, h1⟩)) (fun u o z e => by rw [upd_ne z]; exact e)
    exact hr.sem _ _ p _ _ σ ((g.trans g1).trans gb) (E.up (g1.trans gb)) D (k.up (g1.trans gb).g) hx
  refine ⟨.ref q, E.ok j _ hρ, ?_⟩
  rcases hk with rfl | rfl | rfl
  · exact ⟨q, _, 1, 1, rfl, rfl, h1, rfl, fin m b d⟩
  · exact ⟨q, _, 2, 2, rfl, rfl, h1, rfl, fin a m d⟩
  · exact ⟨q, _, 3, 3, rfl, rfl, h1, rfl, fin a b m⟩
end
end Ty

set_option Elab.async false
set_option linter.all false
set_option maxRecDepth 100000
set_option maxHeartbeats 1000000
set_option autoImplicit false
/-! By: the box is taken from; a law that makes its box first -/
namespace Ty
open PySem PySem.Spec PyProof.Rows L2

def tTake (K : Fg) (j : Nat) : TS := tIfS (tAnd (tTest (tOp (rI0 fun i j => .bl (decide (i ≤ j))) (tOp (rIxL K) (tVar j) (tC (.int 1))) (tC (.int 1)))) (tTest (tOp (rNeD K) (tOp (rIxL K) (tVar j) (tC (.int 0))) (tLst tNil))))
  (tSeq (tAsg (tOp (rIxL K) (tOp (rIxL K) (tVar j) (tC (.int 0))) (tC (.int 0))) (gSub (tVar j) (tC (.int 1)) rSetL)) (tAsg (tSl (rSlL K) (tOp (rIxL K) (tVar j) (tC (.int 0))) (tPart (tC (.int 1))) tNoPart) (gSub (tVar j) (tC (.int 0)) rSetL))) tNext
section
variable {X : Cx} {c : Cn} {ρ : List Sl} {q : Addr} {S L β : Type} {out : S → List Sl} {lp : L → List Sl} {i : Rp β} {rest : List Stmt} {st : Stmt} {tr : TS} {Φr : Pt (Out S L β)}
theorem at0 {α : Type} {x : α} {xs : List α} : atI (x :: xs) 0 = some x := by
  unfold atI ixN
  have h : (0 : Int) < ((x :: xs).length : Int) := by rw [List.length_cons]; omega
  rw [if_pos (Int.le_refl 0), if_pos h]
  rfl
theorem cut_ints (ns : List Int) (lo hi : Option Int) : ∃ ms : List Int, cutV (ns.map V.int) lo hi = ms.map V.int :=
  ⟨(ns.drop (HT.sIx (ns.map V.int).length 0 lo)).take (HT.sIx (ns.map V.int).length (ns.map V.int).length hi - HT.sIx (ns.map V.int).length 0 lo), by
    unfold cutV
    rw [List.map_take, List.map_drop]⟩
/-- if box[1] <= 1 and box[0] != []: box[1] = box[0][0]; box[0] = box[0][1:] -/
theorem b_bxTake (j : Nat) (hc : c.rs = rsB q) (hρ : ρ[j]? = some (.rf q)) (hps : PS X st (tTake X.K j)) (hr : JB X c rest ρ out lp i tr Φr) : JB X c (st :: rest) ρ out lp i (tSeq (tTake X.K j) tr) Φr := by
  refine ⟨pss_cons hps hr.pe, fun post ep φ G H σ g E D k hx => ?_⟩
  have w0 : Wd (rsB q) G H := hc ▸ g.w
  obtain ⟨l, a, b, d, ns, h1, h2⟩ := w0.i
  have hv := E.ok j _ hρ
  have hl0 : (ns.map V.int).length = ns.length := List.length_map _
  refine ⟨.ref q, hv, q, _, 1, .int a, rfl, rfl, SqL.of h1, rfl, a, 1, rfl, rfl, decide (a ≤ 1), rfl, ?_⟩
  cases hb : decide (a ≤ 1) with
  | false => exact hr.sem _ _ φ G H σ g E D k hx
  | true =>
    show tTest (tOp (rNeD X.K) (tOp (rIxL X.K) (tVar j) (tC (.int 0))) (tLst tNil)) σ H _
    refine ⟨.ref q, hv, q, _, 0, .ref l, rfl, rfl, SqL.of h1, rfl, Nat.zero_le _, fun p hp => ?_⟩
    have lp' : l ≠ p := fun z => by
      rw [z, hp] at h2
      cases h2
    have qp : q ≠ p := fun z => by
      rw [z, hp] at h1
      cases h1
    have g1 : Gr (rsB q) G H (upd G p (.lst [])) (upd H p (.lst [])) := gr_new w0 hp
    have d1 : Dp X.K (upd H p (.lst [])) (.ref l) (.list (ns.map fun n => PyData.int n)) := .lst (SqL.of (by rw [upd_ne lp']; exact h2)) (by
      have : ∀ ns : List Int, DpAll X.K (upd H p (.lst [])) (ns.map V.int) (ns.map fun n => PyData.int n) := by
        intro ns
        induction ns with
        | nil => exact .nil
        | cons n ns ih => exact .cons (.int n) ih
      exact this ns)
    have e1 : (.list (ns.map fun n => PyData.int n) : PyData) = (datL (i := rpI)).enc ns := rfl
    refine ⟨_, .list [], d1, .lst (SqL.of upd_same) .nil, ?_, by decide, !PyData.eqv (.list (ns.map fun n => PyData.int n)) (.list []), rfl, ?_⟩
    · rw [e1]
      exact shaped_of (d := datL (i := rpI)) (fun _ _ => trivial) (by decide)
    have w1 := g1.w
    have hv1 := hv
    have hq1 : upd H p (.lst []) q = some (.lst [.ref l, .int a, .int b, .int d]) := by rw [upd_ne qp]; exact h1
    have hl1 : upd H p (.lst []) l = some (.lst (ns.map V.int)) := by rw [upd_ne lp']; exact h2
    cases ns with
    | nil =>
      have : PyData.eqv (.list (([] : List Int).map fun n => PyData.int n)) (.list []) = true := by simp [PyData.eqv, PyData.eqvAll]
      rw [this]
      have g1' : Gr c.rs G H (upd G p (.lst [])) (upd H p (.lst [])) := hc ▸ g1
      exact hr.sem _ _ φ _ _ σ (g.trans g1') (E.up g1') D (k.up g1'.g) hx
    | cons n ns =>
      have : PyData.eqv (.list ((n :: ns).map fun n => PyData.int n)) (.list []) = false := by simp [PyData.eqv, PyData.eqvAll]
      rw [this]
      refine ⟨.ref q, hv, q, _, 0, .ref l, rfl, rfl, SqL.of hq1, rfl, l, _, 0, .int n, rfl, rfl, SqL.of hl1, at0, ?_⟩
      refine ⟨.ref q, hv, q, _, 1, 1, rfl, rfl, hq1, rfl, ?_⟩
      have lq : l ≠ q := fun z => by
        rw [z, h1] at h2
        cases h2
      show tAsg (tSl (rSlL X.K) (tOp (rIxL X.K) (tVar j) (tC (.int 0))) (tPart (tC (.int 1))) tNoPart) (gSub (tVar j) (tC (.int 0)) rSetL) { nx := tr D, rt := D.rt, bk := D.bk, ct := D.ct } σ (upd (upd H p (.lst [])) q (.lst [.ref l, .int n, .int b, .int d]))
      have hl2 : upd (upd H p (.lst [])) q (.lst [.ref l, .int n, .int b, .int d]) l = some (.lst ((n :: ns).map V.int)) := by rw [upd_ne lq]; exact hl1
      have g2 : Gr (rsB q) (upd G p (.lst [])) (upd H p (.lst [])) (upd G p (.lst [])) (upd (upd H p (.lst [])) q (.lst [.ref l, .int n, .int b, .int d])) :=
        gr_bx w1 upd_same hl2 (.inl (.inr ⟨_, hq1⟩)) (fun u o z e => by rw [upd_ne z]; exact e)
      refine ⟨.ref q, hv, q, _, 0, .ref l, rfl, rfl, SqL.of upd_same, rfl, 1, rfl, l, _, rfl, SqL.of hl2, fun p2 hp2 => ?_⟩
      obtain ⟨ms, em⟩ := cut_ints (n :: ns) (some 1) none
      rw [em]
      have qp2 : q ≠ p2 := fun z => by
        rw [← z, upd_same] at hp2
        cases hp2
      refine ⟨.ref q, hv, q, _, 0, 0, rfl, rfl, by rw [upd_ne qp2]; exact upd_same, rfl, ?_⟩
      have g3 : Gr (rsB q) (upd G p (.lst [])) (upd (upd H p (.lst [])) q (.lst [.ref l, .int n, .int b, .int d])) (upd G p (.lst []))
          (upd (upd (upd (upd H p (.lst [])) q (.lst [.ref l, .int n, .int b, .int d])) p2 (.lst (ms.map V.int))) q (.lst [.ref p2, .int n, .int b, .int d])) :=
        gr_bx g2.w upd_same (by rw [upd_ne qp2.symm]; exact upd_same) (.inr hp2) (fun u o z e => by
          rw [upd_ne z]
          by_cases y : u = p2
          · rw [y, hp2] at e
            cases e
          · rw [upd_ne y]
            exact e)
      have g123 := (g1.trans g2).trans g3
      have g' : Gr c.rs G H (upd G p (.lst [])) (upd (upd (upd (upd H p (.lst [])) q (.lst [.ref l, .int n, .int b, .int d])) p2 (.lst (ms.map V.int))) q (.lst [.ref p2, .int n, .int b, .int d])) := hc ▸ g123
      exact hr.sem _ _ φ _ _ σ (g.trans g') (E.up g') D (k.up g'.g) hx
end

/-! ### a law that makes its box first -/
theorem en_none {K : Fg} {rs : Rs} {H0 G H : Hp} {σ : L2.St} {n : Nat} (h : σ.length = n) : En K rs H0 G H σ (List.replicate n .no) := by
  have no : ∀ (i : Nat) (x : Sl), (List.replicate n Sl.no)[i]? = some x → x = .no := fun i x e => List.eq_of_mem_replicate (List.mem_of_getElem? e)
  refine ⟨by simp [h], fun i x e => ?_, fun i j x y l ne e1 e2 o1 o2 s1 s2 => ?_⟩
  · rw [no i x e]
    trivial
  · rw [no i x e1] at o1
    cases o1
def asgE : Stmt → Expr
  | .Assign _ e _ => e
  | _ => .Constant .none 0 ⟨0, 0, 0, 0⟩
def spL (K : Fg) (n : Nat) : Sp := fun vs H Q _ => ∃ (a : Addr) (ns : List Int), vs = [.ref a] ∧ SqL K H a (ns.map V.int) ∧ ns.length ≤ n ∧ Only H ∧ ∀ H', Q (.bl true) H'
theorem fn_okBx {P : Program} {w : World} {K : Fg} {mg : Str → Option Value} {base : Heap} {x qual : Str} {params : Arguments} {body rest : List Stmt} {s1 : Stmt} {scope : Scope} {f : Addr} {fd : FuncData} {N : List Str} {k n : Nat} {dvs : List V} {kws : List (Str × V)}
    (F : FunD K x qual params body scope dvs kws f fd) (hbd : body = s1 :: rest) (S : FnScope N ["script"] scope) (hn : n ≤ sizeLine) {Φr : Pt (Out Unit Empty Bool)} {Φe : List Int → Pt Unit}
    (hb1 : ∀ (cdv : Value) (A : Around) (outer : List Env) (s : Shared) (H : Hp) (E : XK), Room k (A.deeper (envOfC qual scope s.heap.objs.size f cdv)) →
      ∃ te, PS (Cf P w K mg base N qual scope f cdv A outer s H E) s1 (tAsg te (gName 1)) ∧ (∀ ns : List Int, JE (Cf P w K mg base N qual scope f cdv A outer s H E) (Cc rs0 H H E) (asgE s1) (.val rpQ ns :: List.replicate (N.length - 1) .no) rpBx te (Φe ns)))
    (hb2 : ∀ (cdv : Value) (A : Around) (outer : List Env) (s : Shared) (H : Hp) (E : XK), Room k (A.deeper (envOfC qual scope s.heap.objs.size f cdv)) →
      ∃ tr, ∀ (p : Addr) (H' : Hp), JB (Cf P w K mg base N qual scope f cdv A outer s H E) (Cc (rsB p) H H' E) rest ((List.replicate N.length Sl.no).set 1 (.rf p)) (fun _ : Unit => List.replicate N.length .no) (fun z : Empty => nomatch z) rpB tr Φr)
    (hΦe : ∀ ns, Φe ns (fun _ => True) (fun _ => False)) (hΦ : Φr (endP False fun b => b = true) (fun _ => False)) : FnOk P w K mg base (L2.CX P w) (k + 1) f fd ["script"] (spL K n) := by
  refine F.ok S (fun vs H Q E h => ?_) (fun cdv A outer s H vs Q E hr h => ?_)
  · obtain ⟨a, ns, rfl, _⟩ := h
    rfl
  · obtain ⟨a, ns, rfl, hS, hl, hO, hQ⟩ := h
    obtain ⟨te, hs, h1⟩ := hb1 cdv A outer s H E hr
    obtain ⟨tr, h2⟩ := hb2 cdv A outer s H E hr
    refine ⟨tSeq (tAsg te (gName 1)) tr, by rw [hbd]; exact pss_cons hs (h2 0 H).pe, ?_⟩
    have w0 : Wd rs0 H H := ⟨Ex.refl _, trivial, fun _ h => h.elim⟩
    have e0 : En K rs0 H H H (start N [.ref a]) (.val rpQ ns :: List.replicate (N.length - 1) .no) :=
      en_args (rs := rs0) (H0 := H) (H := H) (as := [.val rpQ ns]) (.cons (.val ⟨a, rfl, hS, Nat.le_trans hl hn⟩) .nil) (N.length - 1)
    refine (h1 ns).sem (fun _ => True) (fun _ => False) (hΦe ns) H H _ w0 e0 _ (fun G1 H1 v m g r _ => ?_) (fun _ _ _ _ _ _ _ z => z.elim)
    obtain ⟨p, l, a1, a2, a3, ms, rfl, p1, p2⟩ := r
    have fresh : ∀ b o, G1 b = some (.lst o) → H b = none := fun b o e => by
      rcases hO b with h | ⟨u, xs, h⟩
      · exact h
      · have := g.g b _ h
        rw [e] at this
        cases this
    have q1 := g.w.s _ _ p1
    have w2 : Wd (rsB p) H H1 := ⟨fun b o e => g.h b o (fun z => z) e, ⟨l, a1, a2, a3, ms, q1, g.w.s _ _ p2⟩, fun b s => by
      rcases s with rfl | ⟨t, s⟩
      · exact fresh _ _ p1
      · rw [q1] at s
        cases s
        exact fresh _ _ p2⟩
    have hlen : (start N [V.ref a]).length = N.length := by
      rw [e0.len]
      have hN : N.take 1 = [(Str.ofString "script")] := S.pre
      have : 1 ≤ N.length := by
        have := congrArg List.length hN
        simp at this
        omega
      simp
      omega
    refine (h2 p H1).sem _ _ hΦ H H1 _ (Gr.refl w2) ((en_none hlen).set (x := .rf p) rfl rfl) _ ⟨?_, ?_, ?_, ?_⟩ ?_
    · exact fun G' H' σ' s' g _ _ p => p.elim
    · intro G' H' v b g _ r pb
      obtain rfl : v = .bl b := r
      have pb : b = true := pb
      rw [pb]
      exact hQ H'
    · exact fun G' H' σ' l g _ _ p => p.elim
    · exact fun G' H' σ' l g _ _ p => p.elim
    · exact fun G' H' σ' cls d e g r p => p.elim
end Ty

set_option Elab.async false
set_option linter.all false
set_option maxRecDepth 100000
set_option maxHeartbeats 1000000
set_option autoImplicit false
/-! Ty, part J: min, max of tuples; loops by invariants -/
namespace Ty
open PySem PySem.Spec PyProof.Rows L2
theorem alike_int (i j : Int) : PySem.W.alike (.int i) (.int j) = true := by first | rfl | simp [PySem.W.alike]
theorem alikeAll_int : ∀ ns : List Int, PySem.W.AlikeAll (ns.map PyData.int) := fun ns => by
  constructor
  · intro x hx y hy
    obtain ⟨i, _, rfl⟩ := List.mem_map.mp hx
    obtain ⟨j, _, rfl⟩ := List.mem_map.mp hy
    exact alike_int i j
  · intro x hx
    obtain ⟨i, _, rfl⟩ := List.mem_map.mp hx
    exact fun z => nomatch z
theorem dpInts {K : Fg} {H : Hp} : ∀ ns : List Int, DpAll K H (ns.map V.int) (ns.map PyData.int)
  | [] => .nil
  | n :: ns => .cons (.int n) (dpInts ns)
theorem depInts : ∀ ns : List Int, PyData.depthAll (ns.map PyData.int) = 0
  | [] => by simp [PyData.depthAll]
  | n :: ns => by
    rw [List.map_cons]
    simp only [PyData.depthAll, depInts ns, PyData.depth]
    rfl
abbrev rMaxT (K : Fg) : List V → Hp → VK → Prop := fun vs H Q => ∃ (a : Addr) (n : Int) (ns : List Int), vs = [.ref a] ∧ SqT K H a ((n :: ns).map V.int) ∧ Q (.int (ns.foldl max n)) H
abbrev rMinT (K : Fg) : List V → Hp → VK → Prop := fun vs H Q => ∃ (a : Addr) (n : Int) (ns : List Int), vs = [.ref a] ∧ SqT K H a ((n :: ns).map V.int) ∧ Q (.int (ns.foldl min n)) H
section
variable {X : Cx}
theorem cr_maxT (hc : X.calm = true) (hu : X.A.units + 64 < cLine) : CallR X (.builtin "max") (rMaxT X.K) := by
  intro pins s σ H vs us Q I r h
  obtain ⟨a, n, ns, rfl, hs, q⟩ := h
  obtain ⟨its, rv, hl, _⟩ := I.tuple hs
  rw [Vals.ref1 r]
  obtain ⟨as, hr⟩ := Dp.readsAll I _ _ its (dpInts (n :: ns)) rv
  have hd := depInts (n :: ns)
  refine PySem.W.max_tuple_data (x := .int n) (xs := ns.map PyData.int) (I.ok.hd hc) (show s.heap.IsTuple a its.toArray from hl) hr (alikeAll_int (n :: ns)) (by rw [show PyData.int n :: ns.map PyData.int = (n :: ns).map PyData.int from rfl, hd]; omega) fun i v h' tk bs hi hv hk => ?_
  rw [PySem.W.maxD_ints] at hv
  cases hv
  exact ⟨.int _, H, I.kept hk, ⟨_, rfl⟩, q⟩
theorem cr_minT (hc : X.calm = true) (hu : X.A.units + 64 < cLine) : CallR X (.builtin "min") (rMinT X.K) := by
  intro pins s σ H vs us Q I r h
  obtain ⟨a, n, ns, rfl, hs, q⟩ := h
  obtain ⟨its, rv, hl, _⟩ := I.tuple hs
  rw [Vals.ref1 r]
  obtain ⟨as, hr⟩ := Dp.readsAll I _ _ its (dpInts (n :: ns)) rv
  have hd := depInts (n :: ns)
  refine PySem.W.min_tuple_data (x := .int n) (xs := ns.map PyData.int) (I.ok.hd hc) (show s.heap.IsTuple a its.toArray from hl) hr (alikeAll_int (n :: ns)) (by rw [show PyData.int n :: ns.map PyData.int = (n :: ns).map PyData.int from rfl, hd]; omega) fun i v h' tk bs hi hv hk => ?_
  rw [PySem.W.minD_ints] at hv
  cases hv
  exact ⟨.int _, H, I.kept hk, ⟨_, rfl⟩, q⟩
theorem max_P (hc : X.calm = true) (hu : X.A.units + 64 < cLine) : CallW X (.builtin "max") (aCons (rp2 (i := rpI) (j := rpI)) aNil) rpI (rMaxT X.K) (fun x post _ => post (max x.1.1 x.1.2)) :=
  ⟨cr_maxT hc hu, fun rs G H vs x post ep Q w ha φ k => by
    obtain ⟨v, rfl, a, u, z, rfl, h1, h2, h3⟩ := one1 ha
    obtain rfl : u = V.int x.1.1 := h2
    obtain rfl : z = V.int x.1.2 := h3
    exact ⟨a, x.1.1, [x.1.2], rfl, w.s.st h1, k G H _ _ (Gr.refl w) rfl φ⟩⟩
theorem min_P (hc : X.calm = true) (hu : X.A.units + 64 < cLine) : CallW X (.builtin "min") (aCons (rp2 (i := rpI) (j := rpI)) aNil) rpI (rMinT X.K) (fun x post _ => post (min x.1.1 x.1.2)) :=
  ⟨cr_minT hc hu, fun rs G H vs x post ep Q w ha φ k => by
    obtain ⟨v, rfl, a, u, z, rfl, h1, h2, h3⟩ := one1 ha
    obtain rfl : u = V.int x.1.1 := h2
    obtain rfl : z = V.int x.1.2 := h3
    exact ⟨a, x.1.1, [x.1.2], rfl, w.s.st h1, k G H _ _ (Gr.refl w) rfl φ⟩⟩
end
/-! ### loops by invariants -/
theorem forP_ind {α S β : Type} {Φb : α → S → Pt (Out S S β)} {fin : S → Prop} {rt : β → Prop} {ep : Exn → Prop} (Inv : List α → S → Prop) (hnil : ∀ s, Inv [] s → fin s)
    (hcons : ∀ x r s (next : S → Prop), (∀ s', Inv r s' → next s') → Inv (x :: r) s → Φb x s (fun
      | .nx s' => next s'
      | .ct s' => next s'
      | .bk s' => fin s'
      | .rt b => rt b) ep) : ∀ xs s, Inv xs s → forP Φb fin rt ep xs s := by
  intro xs
  induction xs with
  | nil => exact fun s h => hnil s h
  | cons x r ih => exact fun s h => hcons x r s (fun s' => forP Φb fin rt ep r s') ih h
theorem lcP_ind {α β : Type} {Φt : α → Pt Bool} {Φe : α → Pt β} {post : List β → Prop} (Inv : List α → List β → Prop) (hnil : ∀ acc, Inv [] acc → post acc)
    (hcons : ∀ x r acc (next : List β → Prop), (∀ acc', Inv r acc' → next acc') → Inv (x :: r) acc → Φt x (fun k => if k = true then Φe x (fun y => next (acc ++ [y])) (fun _ => False) else next acc) (fun _ => False)) :
    ∀ xs acc, Inv xs acc → lcP Φt Φe post xs acc := by
  intro xs
  induction xs with
  | nil => exact fun s h => hnil s h
  | cons x r ih => exact fun acc h => hcons x r acc (fun acc' => lcP Φt Φe post r acc') ih h
/-- a comprehension is a filter and a map -/
theorem lcP_eq {α β : Type} {Φt : α → Pt Bool} {Φe : α → Pt β} {post : List β → Prop} (f : α → Bool) (g : α → β) (xs : List α) (ht : ∀ x ∈ xs, ∀ (P : Bool → Prop) ep, P (f x) → Φt x P ep) (he : ∀ x ∈ xs, f x = true → ∀ (P : β → Prop) ep, P (g x) → Φe x P ep) (h : post ((xs.filter f).map g)) : lcP Φt Φe post xs [] := by
  refine lcP_ind (fun ys acc => (∀ x ∈ ys, x ∈ xs) ∧ post (acc ++ (ys.filter f).map g)) (fun acc h => by simpa using h.2) (fun x r acc next hn hi => ?_) xs [] ⟨fun _ h => h, by simpa using h⟩
  obtain ⟨h1, h2⟩ := hi
  have hr : ∀ y ∈ r, y ∈ xs := fun y hy => h1 y (List.mem_cons_of_mem _ hy)
  refine ht x (h1 x List.mem_cons_self) _ _ ?_
  cases hf : f x with
  | true =>
    rw [if_pos rfl]
    refine he x (h1 x List.mem_cons_self) hf _ _ (hn _ ⟨hr, ?_⟩)
    rw [List.filter_cons, hf] at h2
    simpa using h2
  | false =>
    rw [if_neg (by simp)]
    refine hn _ ⟨hr, ?_⟩
    rw [List.filter_cons, hf] at h2
    simpa using h2
theorem _root_.L2.Room.u1 {k : Nat} {A : PySem.Around} (hr : L2.Room k A) : A.units + 1 < PySem.cLine := by
  have := hr.units
  omega
theorem JE.conv {X : Cx} {c : Cn} {e : Expr} {ρ : List Sl} {α : Type} {i : Rp α} {t t' : TE} {Φ Φ' : Pt α} (h : JE X c e ρ i t Φ) (ht : t = t') (hf : Φ = Φ') : JE X c e ρ i t' Φ' := ht ▸ hf ▸ h
theorem JB.conv {X : Cx} {c : Cn} {ss : List Stmt} {ρ : List Sl} {S L β : Type} {out : S → List Sl} {lp : L → List Sl} {i : Rp β} {t t' : TS} {Φ Φ' : Pt (Out S L β)} (h : JB X c ss ρ out lp i t Φ) (ht : t = t') (hf : Φ = Φ') : JB X c ss ρ out lp i t' Φ' := ht ▸ hf ▸ h
theorem JTs.conv {X : Cx} {c : Cn} {es : List Expr} {ρ : List Sl} {t t' : TT} {Φ Φ' : Pt Bool} (h : JTs X c es ρ t Φ) (ht : t = t') (hf : Φ = Φ') : JTs X c es ρ t' Φ' := ht ▸ hf ▸ h
/-- two ways that meet -/
theorem seq_if {S1 S L β : Type} {b : Bool} {Φr : S1 → Pt (Out S L β)} {post : Out S L β → Prop} {ep : Exn → Prop} {x y : S1} (Q : S1 → Prop) (hx : b = true → Q x) (hy : b = false → Q y) (h : ∀ z, Q z → Φr z post ep) : if b = true then seqP Φr post ep (.nx x) else seqP Φr post ep (.nx y) := by
  cases b with
  | true => exact h x (hx rfl)
  | false => exact h y (hy rfl)
theorem two_no {P1 P2 X Y N : Prop} (h1 : P1) (h2 : P2) (hn : N) : P1 ∧ (if (!true) = true then X else P2 ∧ if (!true) = true then Y else N) := ⟨h1, by
  rw [if_neg (by simp)]
  exact ⟨h2, by
    rw [if_neg (by simp)]
    exact hn⟩⟩
theorem seq_nx {S1 S L β : Type} {Φr : S1 → Pt (Out S L β)} {post : Out S L β → Prop} {ep : Exn → Prop} {x : S1} (h : Φr x post ep) : seqP Φr post ep (.nx x) := h
end Ty

set_option Elab.async false
set_option linter.all false
set_option maxRecDepth 100000
set_option maxHeartbeats 0
set_option autoImplicit false
namespace K06
open PySem PySem.Spec PyProof.Rows L2 Ty
def top (i : Nat) : Stmt := PySem.Challenge.pw_valvewise_k06_spans.main.body.getD i (.Pass ⟨0, 0, 0, 0⟩)
abbrev s_Span_init : Stmt := inClass (top 1) 0
abbrev s_Span_add : Stmt := inClass (top 1) 1
abbrev s_Span_mul : Stmt := inClass (top 1) 2
abbrev s_Span_rmul : Stmt := inClass (top 1) 3
abbrev s_Span_and : Stmt := inClass (top 1) 4
abbrev s_Span_contains : Stmt := inClass (top 1) 5
abbrev s_Span_len : Stmt := inClass (top 1) 6
abbrev s_Span_bool : Stmt := inClass (top 1) 7
abbrev s_Span_eq : Stmt := inClass (top 1) 8
abbrev s_Span_repr : Stmt := inClass (top 1) 9
abbrev s_law_box : Stmt := top 3
abbrev s_law_draw : Stmt := top 4
abbrev s_law_fit : Stmt := top 5
abbrev s_law_number : Stmt := top 6
abbrev s_law_pair : Stmt := top 7
abbrev s_law_ends : Stmt := top 8
abbrev s_law_fits : Stmt := top 9
abbrev s_law_is_whole : Stmt := top 10
abbrev s_law_says : Stmt := top 11
abbrev s_law_is : Stmt := top 12
abbrev s_law_members : Stmt := top 13
abbrev s_law_holds : Stmt := top 14
abbrev s_law_sum : Stmt := top 15
abbrev s_law_adds : Stmt := top 16
abbrev s_law_grows : Stmt := top 17
abbrev s_law_meets : Stmt := top 18
abbrev s_law_factor : Stmt := top 19
abbrev s_law : Stmt := top 20
def dd_Span_init : He.DefD := ⟨("Span", some "__init__"), "__init__", "Span.__init__", defArgs s_Span_init, defBody s_Span_init, defScope s_Span_init, [], []⟩
def dd_Span_add : He.DefD := ⟨("Span", some "__add__"), "__add__", "Span.__add__", defArgs s_Span_add, defBody s_Span_add, defScope s_Span_add, [], []⟩
def dd_Span_mul : He.DefD := ⟨("Span", some "__mul__"), "__mul__", "Span.__mul__", defArgs s_Span_mul, defBody s_Span_mul, defScope s_Span_mul, [], []⟩
def dd_Span_rmul : He.DefD := ⟨("Span", some "__rmul__"), "__rmul__", "Span.__rmul__", defArgs s_Span_rmul, defBody s_Span_rmul, defScope s_Span_rmul, [], []⟩
def dd_Span_and : He.DefD := ⟨("Span", some "__and__"), "__and__", "Span.__and__", defArgs s_Span_and, defBody s_Span_and, defScope s_Span_and, [], []⟩
def dd_Span_contains : He.DefD := ⟨("Span", some "__contains__"), "__contains__", "Span.__contains__", defArgs s_Span_contains, defBody s_Span_contains, defScope s_Span_contains, [], []⟩
def dd_Span_len : He.DefD := ⟨("Span", some "__len__"), "__len__", "Span.__len__", defArgs s_Span_len, defBody s_Span_len, defScope s_Span_len, [], []⟩
def dd_Span_bool : He.DefD := ⟨("Span", some "__bool__"), "__bool__", "Span.__bool__", defArgs s_Span_bool, defBody s_Span_bool, defScope s_Span_bool, [], []⟩
def dd_Span_eq : He.DefD := ⟨("Span", some "__eq__"), "__eq__", "Span.__eq__", defArgs s_Span_eq, defBody s_Span_eq, defScope s_Span_eq, [], []⟩
def dd_Span_repr : He.DefD := ⟨("Span", some "__repr__"), "__repr__", "Span.__repr__", defArgs s_Span_repr, defBody s_Span_repr, defScope s_Span_repr, [], []⟩
def dd_law_box : He.DefD := ⟨("_law_box", none), "_law_box", "_law_box", defArgs s_law_box, defBody s_law_box, defScope s_law_box, [], []⟩
def dd_law_draw : He.DefD := ⟨("_law_draw", none), "_law_draw", "_law_draw", defArgs s_law_draw, defBody s_law_draw, defScope s_law_draw, [], []⟩
def dd_law_fit : He.DefD := ⟨("_law_fit", none), "_law_fit", "_law_fit", defArgs s_law_fit, defBody s_law_fit, defScope s_law_fit, [], []⟩
def dd_law_number : He.DefD := ⟨("_law_number", none), "_law_number", "_law_number", defArgs s_law_number, defBody s_law_number, defScope s_law_number, [], []⟩
def dd_law_pair : He.DefD := ⟨("_law_pair", none), "_law_pair", "_law_pair", defArgs s_law_pair, defBody s_law_pair, defScope s_law_pair, [], []⟩
def dd_law_ends : He.DefD := ⟨("_law_ends", none), "_law_ends", "_law_ends", defArgs s_law_ends, defBody s_law_ends, defScope s_law_ends, [], []⟩
def dd_law_fits : He.DefD := ⟨("_law_fits", none), "_law_fits", "_law_fits", defArgs s_law_fits, defBody s_law_fits, defScope s_law_fits, [], []⟩
def dd_law_is_whole : He.DefD := ⟨("_law_is_whole", none), "_law_is_whole", "_law_is_whole", defArgs s_law_is_whole, defBody s_law_is_whole, defScope s_law_is_whole, [], []⟩
def dd_law_says : He.DefD := ⟨("_law_says", none), "_law_says", "_law_says", defArgs s_law_says, defBody s_law_says, defScope s_law_says, [], []⟩
def dd_law_is : He.DefD := ⟨("_law_is", none), "_law_is", "_law_is", defArgs s_law_is, defBody s_law_is, defScope s_law_is, [], []⟩
def dd_law_members : He.DefD := ⟨("_law_members", none), "_law_members", "_law_members", defArgs s_law_members, defBody s_law_members, defScope s_law_members, [], []⟩
def dd_law_holds : He.DefD := ⟨("_law_holds", none), "_law_holds", "_law_holds", defArgs s_law_holds, defBody s_law_holds, defScope s_law_holds, [], []⟩
def dd_law_sum : He.DefD := ⟨("_law_sum", none), "_law_sum", "_law_sum", defArgs s_law_sum, defBody s_law_sum, defScope s_law_sum, [], []⟩
def dd_law_adds : He.DefD := ⟨("_law_adds", none), "_law_adds", "_law_adds", defArgs s_law_adds, defBody s_law_adds, defScope s_law_adds, [], []⟩
def dd_law_grows : He.DefD := ⟨("_law_grows", none), "_law_grows", "_law_grows", defArgs s_law_grows, defBody s_law_grows, defScope s_law_grows, [], []⟩
def dd_law_meets : He.DefD := ⟨("_law_meets", none), "_law_meets", "_law_meets", defArgs s_law_meets, defBody s_law_meets, defScope s_law_meets, [], []⟩
def dd_law_factor : He.DefD := ⟨("_law_factor", none), "_law_factor", "_law_factor", defArgs s_law_factor, defBody s_law_factor, defScope s_law_factor, [], []⟩
def dd_law : He.DefD := ⟨("law", none), "law", "law", defArgs s_law, defBody s_law, defScope s_law, [], []⟩
def fn : List He.DefD := [dd_Span_init, dd_Span_add, dd_Span_mul, dd_Span_rmul, dd_Span_and, dd_Span_contains, dd_Span_len, dd_Span_bool, dd_Span_eq, dd_Span_repr, dd_law_box, dd_law_draw, dd_law_fit, dd_law_number, dd_law_pair, dd_law_ends, dd_law_fits, dd_law_is_whole, dd_law_says, dd_law_is, dd_law_members, dd_law_holds, dd_law_sum, dd_law_adds, dd_law_grows, dd_law_meets, dd_law_factor, dd_law]
def fa : List He.Fa := [.glo "Span", .glo "_law_box", .glo "_law_draw", .glo "_law_fit", .glo "_law_number", .glo "_law_pair", .glo "_law_ends", .glo "_law_fits", .glo "_law_is_whole", .glo "_law_says", .glo "_law_is", .glo "_law_members", .glo "_law_holds", .glo "_law_sum", .glo "_law_adds", .glo "_law_grows", .glo "_law_meets", .glo "_law_factor", .glo "law", .free "NotImplemented", .free "bool", .free "int", .free "isinstance", .free "len", .free "max", .free "min", .free "range", .free "repr", .free "sorted", .free "str", .cls "Span", .mkr "Span", .meth "Span" "__add__", .meth "Span" "__mul__", .meth "Span" "__rmul__", .meth "Span" "__and__", .meth "Span" "__contains__", .meth "Span" "__len__", .meth "Span" "__bool__", .meth "Span" "__eq__", .meth "Span" "__repr__", .noat "Span" "high", .noat "Span" "low"]
def exB (K : PySem.W.Frag) : Bool := PySem.W.selfFirst K (He.ga K "Span") && (decide (PySem.W.findIn K (.ref (He.ga K "Span")) "__class__" = some (some (.builtin "object.__class__"))) && (decide (PySem.W.specialIn K (.builtin "object.__class__") "__get__" = some (some (.builtin "getset_descriptor.__get__"))) && (decide (PySem.W.takesIn K (.builtin "object.__class__") = some true) && (decide (PySem.W.mroIn K (He.ga K "Span") (.type "object") = some true) && (decide (PySem.W.mroIn K (He.ga K "Span") (.type "int") = some false) && (decide (PySem.W.kitOne K (.ref (He.ga K "Span")) (.ref (He.ga K "Span")) = some true) && decide (PySem.W.subIn K (.type "int") (.ref (He.ga K "Span")) = some false)))))))
structure Txt (K : Fg) (mg : Str → Option Value) : Prop where
  c : He.SaysD fa fn K
  g : ∀ (i : Nat) (x : Str), fa[i]? = some (.glo x) → mg x = some (.ref (He.ga K x))
  f : ∀ (i : Nat) (x : Str), fa[i]? = some (.free x) → mg x = none
  e : exB K = true
section
variable {K : Fg} {mg : Str → Option Value}
theorem Txt.d_Span_init (T : Txt K mg) : ∃ fd, FunD K "__init__" "Span.__init__" (defArgs s_Span_init) (defBody s_Span_init) (defScope s_Span_init) [] [] (He.fAd K ("Span", some "__init__")) fd := T.c.def_ 0 (d := dd_Span_init) rfl
theorem Txt.d_Span_add (T : Txt K mg) : ∃ fd, FunD K "__add__" "Span.__add__" (defArgs s_Span_add) (defBody s_Span_add) (defScope s_Span_add) [] [] (He.fAd K ("Span", some "__add__")) fd := T.c.def_ 1 (d := dd_Span_add) rfl
theorem Txt.d_Span_mul (T : Txt K mg) : ∃ fd, FunD K "__mul__" "Span.__mul__" (defArgs s_Span_mul) (defBody s_Span_mul) (defScope s_Span_mul) [] [] (He.fAd K ("Span", some "__mul__")) fd := T.c.def_ 2 (d := dd_Span_mul) rfl
theorem Txt.d_Span_rmul (T : Txt K mg) : ∃ fd, FunD K "__rmul__" "Span.__rmul__" (defArgs s_Span_rmul) (defBody s_Span_rmul) (defScope s_Span_rmul) [] [] (He.fAd K ("Span", some "__rmul__")) fd := T.c.def_ 3 (d := dd_Span_rmul) rfl
theorem Txt.d_Span_and (T : Txt K mg) : ∃ fd, FunD K "__and__" "Span.__and__" (defArgs s_Span_and) (defBody s_Span_and) (defScope s_Span_and) [] [] (He.fAd K ("Span", some "__and__")) fd := T.c.def_ 4 (d := dd_Span_and) rfl
theorem Txt.d_Span_contains (T : Txt K mg) : ∃ fd, FunD K "__contains__" "Span.__contains__" (defArgs s_Span_contains) (defBody s_Span_contains) (defScope s_Span_contains) [] [] (He.fAd K ("Span", some "__contains__")) fd := T.c.def_ 5 (d := dd_Span_contains) rfl
theorem Txt.d_Span_len (T : Txt K mg) : ∃ fd, FunD K "__len__" "Span.__len__" (defArgs s_Span_len) (defBody s_Span_len) (defScope s_Span_len) [] [] (He.fAd K ("Span", some "__len__")) fd := T.c.def_ 6 (d := dd_Span_len) rfl
theorem Txt.d_Span_bool (T : Txt K mg) : ∃ fd, FunD K "__bool__" "Span.__bool__" (defArgs s_Span_bool) (defBody s_Span_bool) (defScope s_Span_bool) [] [] (He.fAd K ("Span", some "__bool__")) fd := T.c.def_ 7 (d := dd_Span_bool) rfl
theorem Txt.d_Span_eq (T : Txt K mg) : ∃ fd, FunD K "__eq__" "Span.__eq__" (defArgs s_Span_eq) (defBody s_Span_eq) (defScope s_Span_eq) [] [] (He.fAd K ("Span", some "__eq__")) fd := T.c.def_ 8 (d := dd_Span_eq) rfl
theorem Txt.d_Span_repr (T : Txt K mg) : ∃ fd, FunD K "__repr__" "Span.__repr__" (defArgs s_Span_repr) (defBody s_Span_repr) (defScope s_Span_repr) [] [] (He.fAd K ("Span", some "__repr__")) fd := T.c.def_ 9 (d := dd_Span_repr) rfl
theorem Txt.d_law_box (T : Txt K mg) : ∃ fd, FunD K "_law_box" "_law_box" (defArgs s_law_box) (defBody s_law_box) (defScope s_law_box) [] [] (He.fAd K ("_law_box", none)) fd := T.c.def_ 10 (d := dd_law_box) rfl
theorem Txt.d_law_draw (T : Txt K mg) : ∃ fd, FunD K "_law_draw" "_law_draw" (defArgs s_law_draw) (defBody s_law_draw) (defScope s_law_draw) [] [] (He.fAd K ("_law_draw", none)) fd := T.c.def_ 11 (d := dd_law_draw) rfl
theorem Txt.d_law_fit (T : Txt K mg) : ∃ fd, FunD K "_law_fit" "_law_fit" (defArgs s_law_fit) (defBody s_law_fit) (defScope s_law_fit) [] [] (He.fAd K ("_law_fit", none)) fd := T.c.def_ 12 (d := dd_law_fit) rfl
theorem Txt.d_law_number (T : Txt K mg) : ∃ fd, FunD K "_law_number" "_law_number" (defArgs s_law_number) (defBody s_law_number) (defScope s_law_number) [] [] (He.fAd K ("_law_number", none)) fd := T.c.def_ 13 (d := dd_law_number) rfl
theorem Txt.d_law_pair (T : Txt K mg) : ∃ fd, FunD K "_law_pair" "_law_pair" (defArgs s_law_pair) (defBody s_law_pair) (defScope s_law_pair) [] [] (He.fAd K ("_law_pair", none)) fd := T.c.def_ 14 (d := dd_law_pair) rfl
theorem Txt.d_law_ends (T : Txt K mg) : ∃ fd, FunD K "_law_ends" "_law_ends" (defArgs s_law_ends) (defBody s_law_ends) (defScope s_law_ends) [] [] (He.fAd K ("_law_ends", none)) fd := T.c.def_ 15 (d := dd_law_ends) rfl
theorem Txt.d_law_fits (T : Txt K mg) : ∃ fd, FunD K "_law_fits" "_law_fits" (defArgs s_law_fits) (defBody s_law_fits) (defScope s_law_fits) [] [] (He.fAd K ("_law_fits", none)) fd := T.c.def_ 16 (d := dd_law_fits) rfl
theorem Txt.d_law_is_whole (T : Txt K mg) : ∃ fd, FunD K "_law_is_whole" "_law_is_whole" (defArgs s_law_is_whole) (defBody s_law_is_whole) (defScope s_law_is_whole) [] [] (He.fAd K ("_law_is_whole", none)) fd := T.c.def_ 17 (d := dd_law_is_whole) rfl
theorem Txt.d_law_says (T : Txt K mg) : ∃ fd, FunD K "_law_says" "_law_says" (defArgs s_law_says) (defBody s_law_says) (defScope s_law_says) [] [] (He.fAd K ("_law_says", none)) fd := T.c.def_ 18 (d := dd_law_says) rfl
theorem Txt.d_law_is (T : Txt K mg) : ∃ fd, FunD K "_law_is" "_law_is" (defArgs s_law_is) (defBody s_law_is) (defScope s_law_is) [] [] (He.fAd K ("_law_is", none)) fd := T.c.def_ 19 (d := dd_law_is) rfl
theorem Txt.d_law_members (T : Txt K mg) : ∃ fd, FunD K "_law_members" "_law_members" (defArgs s_law_members) (defBody s_law_members) (defScope s_law_members) [] [] (He.fAd K ("_law_members", none)) fd := T.c.def_ 20 (d := dd_law_members) rfl
theorem Txt.d_law_holds (T : Txt K mg) : ∃ fd, FunD K "_law_holds" "_law_holds" (defArgs s_law_holds) (defBody s_law_holds) (defScope s_law_holds) [] [] (He.fAd K ("_law_holds", none)) fd := T.c.def_ 21 (d := dd_law_holds) rfl
theorem Txt.d_law_sum (T : Txt K mg) : ∃ fd, FunD K "_law_sum" "_law_sum" (defArgs s_law_sum) (defBody s_law_sum) (defScope s_law_sum) [] [] (He.fAd K ("_law_sum", none)) fd := T.c.def_ 22 (d := dd_law_sum) rfl
theorem Txt.d_law_adds (T : Txt K mg) : ∃ fd, FunD K "_law_adds" "_law_adds" (defArgs s_law_adds) (defBody s_law_adds) (defScope s_law_adds) [] [] (He.fAd K ("_law_adds", none)) fd := T.c.def_ 23 (d := dd_law_adds) rfl
theorem Txt.d_law_grows (T : Txt K mg) : ∃ fd, FunD K "_law_grows" "_law_grows" (defArgs s_law_grows) (defBody s_law_grows) (defScope s_law_grows) [] [] (He.fAd K ("_law_grows", none)) fd := T.c.def_ 24 (d := dd_law_grows) rfl
theorem Txt.d_law_meets (T : Txt K mg) : ∃ fd, FunD K "_law_meets" "_law_meets" (defArgs s_law_meets) (defBody s_law_meets) (defScope s_law_meets) [] [] (He.fAd K ("_law_meets", none)) fd := T.c.def_ 25 (d := dd_law_meets) rfl
theorem Txt.d_law_factor (T : Txt K mg) : ∃ fd, FunD K "_law_factor" "_law_factor" (defArgs s_law_factor) (defBody s_law_factor) (defScope s_law_factor) [] [] (He.fAd K ("_law_factor", none)) fd := T.c.def_ 26 (d := dd_law_factor) rfl
theorem Txt.d_law (T : Txt K mg) : ∃ fd, FunD K "law" "law" (defArgs s_law) (defBody s_law) (defScope s_law) [] [] (He.fAd K ("law", none)) fd := T.c.def_ 27 (d := dd_law) rfl
theorem Txt.g_Span (T : Txt K mg) : mg "Span" = some (.ref (He.ga K "Span")) := T.g 0 _ rfl
theorem Txt.g_law_box (T : Txt K mg) : mg "_law_box" = some (.ref (He.ga K "_law_box")) := T.g 1 _ rfl
theorem Txt.g_law_draw (T : Txt K mg) : mg "_law_draw" = some (.ref (He.ga K "_law_draw")) := T.g 2 _ rfl
theorem Txt.g_law_fit (T : Txt K mg) : mg "_law_fit" = some (.ref (He.ga K "_law_fit")) := T.g 3 _ rfl
theorem Txt.g_law_number (T : Txt K mg) : mg "_law_number" = some (.ref (He.ga K "_law_number")) := T.g 4 _ rfl
theorem Txt.g_law_pair (T : Txt K mg) : mg "_law_pair" = some (.ref (He.ga K "_law_pair")) := T.g 5 _ rfl
theorem Txt.g_law_ends (T : Txt K mg) : mg "_law_ends" = some (.ref (He.ga K "_law_ends")) := T.g 6 _ rfl
theorem Txt.g_law_fits (T : Txt K mg) : mg "_law_fits" = some (.ref (He.ga K "_law_fits")) := T.g 7 _ rfl
theorem Txt.g_law_is_whole (T : Txt K mg) : mg "_law_is_whole" = some (.ref (He.ga K "_law_is_whole")) := T.g 8 _ rfl
theorem Txt.g_law_says (T : Txt K mg) : mg "_law_says" = some (.ref (He.ga K "_law_says")) := T.g 9 _ rfl
theorem Txt.g_law_is (T : Txt K mg) : mg "_law_is" = some (.ref (He.ga K "_law_is")) := T.g 10 _ rfl
theorem Txt.g_law_members (T : Txt K mg) : mg "_law_members" = some (.ref (He.ga K "_law_members")) := T.g 11 _ rfl
theorem Txt.g_law_holds (T : Txt K mg) : mg "_law_holds" = some (.ref (He.ga K "_law_holds")) := T.g 12 _ rfl
theorem Txt.g_law_sum (T : Txt K mg) : mg "_law_sum" = some (.ref (He.ga K "_law_sum")) := T.g 13 _ rfl
theorem Txt.g_law_adds (T : Txt K mg) : mg "_law_adds" = some (.ref (He.ga K "_law_adds")) := T.g 14 _ rfl
theorem Txt.g_law_grows (T : Txt K mg) : mg "_law_grows" = some (.ref (He.ga K "_law_grows")) := T.g 15 _ rfl
theorem Txt.g_law_meets (T : Txt K mg) : mg "_law_meets" = some (.ref (He.ga K "_law_meets")) := T.g 16 _ rfl
theorem Txt.g_law_factor (T : Txt K mg) : mg "_law_factor" = some (.ref (He.ga K "_law_factor")) := T.g 17 _ rfl
theorem Txt.g_law (T : Txt K mg) : mg "law" = some (.ref (He.ga K "law")) := T.g 18 _ rfl
theorem Txt.f_NotImplemented (T : Txt K mg) : mg "NotImplemented" = none := T.f 19 _ rfl
theorem Txt.f_bool (T : Txt K mg) : mg "bool" = none := T.f 20 _ rfl
theorem Txt.f_int (T : Txt K mg) : mg "int" = none := T.f 21 _ rfl
theorem Txt.f_isinstance (T : Txt K mg) : mg "isinstance" = none := T.f 22 _ rfl
theorem Txt.f_len (T : Txt K mg) : mg "len" = none := T.f 23 _ rfl
theorem Txt.f_max (T : Txt K mg) : mg "max" = none := T.f 24 _ rfl
theorem Txt.f_min (T : Txt K mg) : mg "min" = none := T.f 25 _ rfl
theorem Txt.f_range (T : Txt K mg) : mg "range" = none := T.f 26 _ rfl
theorem Txt.f_repr (T : Txt K mg) : mg "repr" = none := T.f 27 _ rfl
theorem Txt.f_sorted (T : Txt K mg) : mg "sorted" = none := T.f 28 _ rfl
theorem Txt.f_str (T : Txt K mg) : mg "str" = none := T.f 29 _ rfl
theorem Txt.c_Span (T : Txt K mg) : Cls K (He.ga K "Span") := He.cls_ok (T.c.fact 30 (f := .cls "Span") rfl)
theorem Txt.mk_Span (T : Txt K mg) : Mk K (He.ga K "Span") (He.ma K (He.ga K "Span") "__init__") := He.mkr_ok (T.c.fact 31 (f := .mkr "Span") rfl)
theorem Txt.m_Span_add (T : Txt K mg) : PySem.W.findIn K (.ref (He.ga K "Span")) "__add__" = some (some (.ref (He.ma K (He.ga K "Span") "__add__"))) ∧ PySem.W.isFn K (.ref (He.ma K (He.ga K "Span") "__add__")) = true := ⟨He.eqO_ok (He.ba (T.c.fact 32 (f := .meth "Span" "__add__") rfl)).1, (He.ba (He.ba (T.c.fact 32 (f := .meth "Span" "__add__") rfl)).2).1⟩
theorem Txt.m_Span_mul (T : Txt K mg) : PySem.W.findIn K (.ref (He.ga K "Span")) "__mul__" = some (some (.ref (He.ma K (He.ga K "Span") "__mul__"))) ∧ PySem.W.isFn K (.ref (He.ma K (He.ga K "Span") "__mul__")) = true := ⟨He.eqO_ok (He.ba (T.c.fact 33 (f := .meth "Span" "__mul__") rfl)).1, (He.ba (He.ba (T.c.fact 33 (f := .meth "Span" "__mul__") rfl)).2).1⟩
theorem Txt.m_Span_rmul (T : Txt K mg) : PySem.W.findIn K (.ref (He.ga K "Span")) "__rmul__" = some (some (.ref (He.ma K (He.ga K "Span") "__rmul__"))) ∧ PySem.W.isFn K (.ref (He.ma K (He.ga K "Span") "__rmul__")) = true := ⟨He.eqO_ok (He.ba (T.c.fact 34 (f := .meth "Span" "__rmul__") rfl)).1, (He.ba (He.ba (T.c.fact 34 (f := .meth "Span" "__rmul__") rfl)).2).1⟩
theorem Txt.m_Span_and (T : Txt K mg) : PySem.W.findIn K (.ref (He.ga K "Span")) "__and__" = some (some (.ref (He.ma K (He.ga K "Span") "__and__"))) ∧ PySem.W.isFn K (.ref (He.ma K (He.ga K "Span") "__and__")) = true := ⟨He.eqO_ok (He.ba (T.c.fact 35 (f := .meth "Span" "__and__") rfl)).1, (He.ba (He.ba (T.c.fact 35 (f := .meth "Span" "__and__") rfl)).2).1⟩
theorem Txt.m_Span_contains (T : Txt K mg) : PySem.W.findIn K (.ref (He.ga K "Span")) "__contains__" = some (some (.ref (He.ma K (He.ga K "Span") "__contains__"))) ∧ PySem.W.isFn K (.ref (He.ma K (He.ga K "Span") "__contains__")) = true := ⟨He.eqO_ok (He.ba (T.c.fact 36 (f := .meth "Span" "__contains__") rfl)).1, (He.ba (He.ba (T.c.fact 36 (f := .meth "Span" "__contains__") rfl)).2).1⟩
theorem Txt.m_Span_len (T : Txt K mg) : PySem.W.findIn K (.ref (He.ga K "Span")) "__len__" = some (some (.ref (He.ma K (He.ga K "Span") "__len__"))) ∧ PySem.W.isFn K (.ref (He.ma K (He.ga K "Span") "__len__")) = true := ⟨He.eqO_ok (He.ba (T.c.fact 37 (f := .meth "Span" "__len__") rfl)).1, (He.ba (He.ba (T.c.fact 37 (f := .meth "Span" "__len__") rfl)).2).1⟩
theorem Txt.m_Span_bool (T : Txt K mg) : PySem.W.findIn K (.ref (He.ga K "Span")) "__bool__" = some (some (.ref (He.ma K (He.ga K "Span") "__bool__"))) ∧ PySem.W.isFn K (.ref (He.ma K (He.ga K "Span") "__bool__")) = true := ⟨He.eqO_ok (He.ba (T.c.fact 38 (f := .meth "Span" "__bool__") rfl)).1, (He.ba (He.ba (T.c.fact 38 (f := .meth "Span" "__bool__") rfl)).2).1⟩
theorem Txt.m_Span_eq (T : Txt K mg) : PySem.W.findIn K (.ref (He.ga K "Span")) "__eq__" = some (some (.ref (He.ma K (He.ga K "Span") "__eq__"))) ∧ PySem.W.isFn K (.ref (He.ma K (He.ga K "Span") "__eq__")) = true := ⟨He.eqO_ok (He.ba (T.c.fact 39 (f := .meth "Span" "__eq__") rfl)).1, (He.ba (He.ba (T.c.fact 39 (f := .meth "Span" "__eq__") rfl)).2).1⟩
theorem Txt.m_Span_repr (T : Txt K mg) : PySem.W.findIn K (.ref (He.ga K "Span")) "__repr__" = some (some (.ref (He.ma K (He.ga K "Span") "__repr__"))) ∧ PySem.W.isFn K (.ref (He.ma K (He.ga K "Span") "__repr__")) = true := ⟨He.eqO_ok (He.ba (T.c.fact 40 (f := .meth "Span" "__repr__") rfl)).1, (He.ba (He.ba (T.c.fact 40 (f := .meth "Span" "__repr__") rfl)).2).1⟩
theorem Txt.n_Span_high (T : Txt K mg) : NoAttr K (He.ga K "Span") "high" := He.noat_ok (T.c.fact 41 (f := .noat "Span" "high") rfl)
theorem Txt.n_Span_low (T : Txt K mg) : NoAttr K (He.ga K "Span") "low" := He.noat_ok (T.c.fact 42 (f := .noat "Span" "low") rfl)
theorem Txt.of {h : Heap} (X : K.In h) (G : h.Ns mainGlobals mg) (c : He.SaysD fa fn K) (e : exB K = true) : Txt K mg := ⟨c, fun i x q => He.glo_ok X G (c.fact i q), fun i x q => He.free_ok X G (c.fact i q), e⟩
end
abbrev R : PySem.W.OpenRow := PySem.W.OpenLaw.row PySem.Challenge.rw_valvewise_k06_spans
abbrev hk : PySem.W.Hook := He.hookX 5 fa fn [] [] exB
def ob (s : PySem.W.SharedT) : He.AlX := He.obsX 5 fa fn [] [] exB (HandSHeadRun.getT s)
theorem ob_eq (s : PySem.W.SharedT) : ob s = hk.obs s.abs := He.obsX_eq (HandSHeadRun.getT_eq s)
abbrev loose : List PySem.Str := ["Span", "_law_box", "_law_draw", "_law_fit", "_law_number", "_law_pair", "_law_ends", "_law_fits", "_law_is_whole", "_law_says", "_law_is", "_law_members", "_law_holds", "_law_sum", "_law_adds", "_law_grows", "_law_meets", "_law_factor"]
theorem run (w : World) : HandSHeadRun.RunEq R (PySem.W.view R.prog [20]) hk ob 4000 loose w := by
  intro os
  kernel_rfl
end K06

set_option Elab.async false
set_option linter.all false
set_option maxRecDepth 100000
set_option maxHeartbeats 1000000
set_option autoImplicit false
namespace K06
open PySem PySem.Spec PyProof.Rows L2 Ty
/-! ### promises, the class Span -/
structure Ok (P : Program) (w : World) (K : Fg) (mg : Str → Option Value) (base : Heap) (nm : Str) (f : Addr) (k : Nat) (ps : List Str) (sp : Sp) : Prop where
  ex : ∃ fd, FnOk P w K mg base (L2.CX P w) k f fd ps sp ∧ Binds K fd ps []
  kp : PySem.W.keepIn K (.ref f) = true
  gm : mg nm = some (.ref f)
structure OkM (P : Program) (w : World) (K : Fg) (mg : Str → Option Value) (base : Heap) (f : Addr) (k : Nat) (ps : List Str) (sp : Sp) : Prop where
  ex : ∃ fd, FnOk P w K mg base (L2.CX P w) k f fd ps sp ∧ Binds K fd ps []
  kp : PySem.W.keepIn K (.ref f) = true
structure Sn where
  low : Int
  high : Int
instance : Nonempty Sn := ⟨⟨0, 0⟩⟩
def mkSp (a b : Int) : Sn := if b < a then ⟨0, -1⟩ else ⟨a, b⟩
abbrev rpSp : Rp Sn := ⟨fun K G v m => ∃ a dx, v = .ref a ∧ G a = some (.ins (He.ga K "Span") dx [("low", .int m.low), ("high", .int m.high)]), fun e h => by
  obtain ⟨a, dx, h1, h2⟩ := h
  exact ⟨a, dx, h1, e _ _ h2⟩⟩
section
variable {K : Fg} {mg : Str → Option Value}
theorem ins_Sp : InsR K rpSp (He.ga K "Span") := fun G v m h => by
  obtain ⟨a, dx, h1, h2⟩ := h
  exact ⟨a, dx, _, h1, h2⟩
theorem fld_low (T : Txt K mg) : FldW K rpSp "low" rpI (fun m => m.low) := fun G v m h => by
  obtain ⟨a, dx, h1, h2⟩ := h
  exact ⟨a, _, dx, _, .int m.low, h1, h2, T.c_Span, T.n_Span_low, rfl, rfl⟩
theorem fld_high (T : Txt K mg) : FldW K rpSp "high" rpI (fun m => m.high) := fun G v m h => by
  obtain ⟨a, dx, h1, h2⟩ := h
  exact ⟨a, _, dx, _, .int m.high, h1, h2, T.c_Span, T.n_Span_high, rfl, rfl⟩
theorem Txt.sf (T : Txt K mg) : PySem.W.selfFirst K (He.ga K "Span") = true := (He.ba T.e).1
theorem Txt.oc (T : Txt K mg) : OwnC K (He.ga K "Span") := by
  obtain ⟨_, h⟩ := He.ba T.e
  obtain ⟨h1, h⟩ := He.ba h
  obtain ⟨h2, h⟩ := He.ba h
  obtain ⟨h3, h⟩ := He.ba h
  obtain ⟨h4, h⟩ := He.ba h
  exact ⟨T.c_Span, of_decide_eq_true h1, of_decide_eq_true h2, of_decide_eq_true h3, of_decide_eq_true h4⟩
theorem Txt.o_sub (T : Txt K mg) : PySem.W.subIn K (.ref (He.ga K "Span")) (.type "int") = some false := by
  obtain ⟨_, h⟩ := He.ba T.e
  obtain ⟨h1, h⟩ := He.ba h
  obtain ⟨h2, h⟩ := He.ba h
  obtain ⟨h3, h⟩ := He.ba h
  obtain ⟨h4, h⟩ := He.ba h
  exact of_decide_eq_true (He.ba h).1
theorem Txt.k_oo (T : Txt K mg) : PySem.W.kitOne K (.ref (He.ga K "Span")) (.ref (He.ga K "Span")) = some true := by
  obtain ⟨_, h⟩ := He.ba T.e
  obtain ⟨h1, h⟩ := He.ba h
  obtain ⟨h2, h⟩ := He.ba h
  obtain ⟨h3, h⟩ := He.ba h
  obtain ⟨h4, h⟩ := He.ba h
  obtain ⟨h5, h⟩ := He.ba h
  exact of_decide_eq_true (He.ba h).1
theorem Txt.i_sub (T : Txt K mg) : PySem.W.subIn K (.type "int") (.ref (He.ga K "Span")) = some false := by
  obtain ⟨_, h⟩ := He.ba T.e
  obtain ⟨h1, h⟩ := He.ba h
  obtain ⟨h2, h⟩ := He.ba h
  obtain ⟨h3, h⟩ := He.ba h
  obtain ⟨h4, h⟩ := He.ba h
  obtain ⟨h5, h⟩ := He.ba h
  exact of_decide_eq_true (He.ba h).2
theorem dn_add : PySem.dunder Operator.Add.info.2 = "__add__" := by first | rfl | decide +kernel
theorem dn_and : PySem.dunder Operator.BitAnd.info.2 = "__and__" := by first | rfl | decide +kernel
theorem dn_mul : PySem.dunder Operator.Mult.info.2 = "__mul__" := by first | rfl | decide +kernel
theorem dn_rmul : PySem.dunderR Operator.Mult.info.2 = "__rmul__" := by first | rfl | decide +kernel
theorem dn_eq : (cmpInfo .Eq).2.1 = "__eq__" := by first | rfl | decide +kernel
theorem Txt.s_add (T : Txt K mg) : PySem.W.findIn K (.ref (He.ga K "Span")) (PySem.dunder Operator.Add.info.2) = some (some (.ref (He.ma K (He.ga K "Span") "__add__"))) := by rw [dn_add]; exact T.m_Span_add.1
theorem Txt.s_and (T : Txt K mg) : PySem.W.findIn K (.ref (He.ga K "Span")) (PySem.dunder Operator.BitAnd.info.2) = some (some (.ref (He.ma K (He.ga K "Span") "__and__"))) := by rw [dn_and]; exact T.m_Span_and.1
theorem Txt.s_mul (T : Txt K mg) : PySem.W.findIn K (.ref (He.ga K "Span")) (PySem.dunder Operator.Mult.info.2) = some (some (.ref (He.ma K (He.ga K "Span") "__mul__"))) := by rw [dn_mul]; exact T.m_Span_mul.1
theorem Txt.s_rmul (T : Txt K mg) : PySem.W.findIn K (.ref (He.ga K "Span")) (PySem.dunderR Operator.Mult.info.2) = some (some (.ref (He.ma K (He.ga K "Span") "__rmul__"))) := by rw [dn_rmul]; exact T.m_Span_rmul.1
theorem Txt.s_eq (T : Txt K mg) : PySem.W.findIn K (.ref (He.ga K "Span")) (cmpInfo .Eq).2.1 = some (some (.ref (He.ma K (He.ga K "Span") "__eq__"))) := by rw [dn_eq]; exact T.m_Span_eq.1
theorem int_mul_at : PySem.W.findIn K (.type "int") (PySem.dunder Operator.Mult.info.2) = some (some (.builtin "int.__mul__")) := by rw [dn_mul]; kernel_rfl
theorem int_rmul_at : PySem.W.findIn K (.type "int") (PySem.dunderR Operator.Mult.info.2) = some (some (.builtin "int.__rmul__")) := by rw [dn_rmul]; kernel_rfl
end
section
variable {P : Program} {w : World} {K : Fg} {mg : Str → Option Value} {base : Heap}
theorem sc_Span_init : FnScope ["self", "low", "high"] ["self", "low", "high"] (defScope s_Span_init) := ⟨rfl, rfl, rfl, by decide +kernel, rfl, by decide +kernel, by decide +kernel⟩
theorem ok_Span_init (T : Txt K mg) : OkM P w K mg base (He.fAd K ("Span", some "__init__")) 1 ["self", "low", "high"] (spI K (He.ga K "Span") (as2 rpI rpI) rpSp (fun y post _ => post (mkSp y.1 y.2.1))) := by
  obtain ⟨fd, F⟩ := T.d_Span_init
  have nd := sc_Span_init.nd
  refine ⟨⟨fd, fn_okI (S := Int × Int) (fs := fun s => [("low", fld rpI s.1), ("high", fld rpI s.2)]) (tail := [.no, .no]) (mk := fun s => ⟨s.1, s.2⟩) F sc_Span_init (fun _ => rfl) (fun s G q dx vs h1 h2 => ?_) (fun y q cdv A outer s H Hb G E hr => ⟨_,
    b_if (mid := fun s : Int × Int => [.oi q (He.ga K "Span") [], .val rpI s.1, .val rpI s.2]) (t_cmp gt_I (e_var 1 rfl) (e_var 2 rfl) (nomark _))
      (b_asg (e_tup2 (a_cons e_int (a_cons (e_un neg_I e_int) a_nil))) (g_tup2 rfl (g_name 1 nd) (g_name 2 nd)) (fun m => b_nil (m.1, m.2) (EnLe.rfl' _)))
      (b_nil (y.1, y.2.1) (EnLe.rfl' _))
      (fun s => b_fld 0 rfl T.c_Span T.n_Span_low (by simp) (by decide) (e_var 1 rfl) (fun m => b_fld 0 rfl T.c_Span T.n_Span_high (by show ¬ (Str.ofString "high") ∈ [Str.ofString "low"]; decide) (by simp) (e_var 2 rfl) (fun n => b_nil (m, n) (.cons (.refl _) (.cons (.no _) (.cons (.no _) .nil))))))⟩) ?_, F.bindsN fun _ _ _ _ _ _ us hl => match us, hl with | [_, _, _], _ => rfl⟩, F.kp⟩
  · cases h2 with
    | cons a1 h2 => cases h2 with
      | cons a2 h2 => cases h2 with
        | nil =>
          have e1 : _ = V.int s.1 := a1 _ (Ex.refl _)
          have e2 : _ = V.int s.2 := a2 _ (Ex.refl _)
          rw [e1, e2] at h1
          exact ⟨q, dx, rfl, h1⟩
  · intro y post ep h
    dsimp only [endI, seqP]
    unfold mkSp at h
    split at h
    · simp_all
    · simp_all
      intro z
      omega
end
end K06

set_option Elab.async false
set_option linter.all false
set_option maxRecDepth 100000
set_option maxHeartbeats 1000000
set_option autoImplicit false
namespace K06
open PySem PySem.Spec PyProof.Rows L2 Ty
/-! ### what the defs do -/
def fit (n : Int) : Int := max (-999999999) (min 999999999 n)
def InB (n : Int) : Prop := -999999999 ≤ n ∧ n ≤ 999999999
instance (n : Int) : Decidable (InB n) := inferInstanceAs (Decidable (_ ∧ _))
def InW (n : Int) : Prop := -(2 ^ 61) ≤ n ∧ n ≤ 2 ^ 61
def ends (p : Int × Int) : Int × Int := if p.2 < p.1 then (0, -1) else p
def fits (p : Int × Int) : Bool := decide (InB p.1 ∧ InB p.2)
def text (a b : Int) : Str := (((Str.ofString "Span(" ++ Str.ofString (toString a)) ++ Str.ofString ", ") ++ Str.ofString (toString b)) ++ Str.ofString ")"
def spAdd (a b : Sn) : Sn := if a.low ≤ a.high ∧ b.low ≤ b.high then mkSp (a.low + b.low) (a.high + b.high) else mkSp 0 (-1)
def spMul (a : Sn) (f : Int) : Sn := if a.low ≤ a.high then (if f < 0 then mkSp (a.high * f) (a.low * f) else mkSp (a.low * f) (a.high * f)) else mkSp 0 (-1)
/-- a span of these ends -/
def Rep (s : Sn) (p : Int × Int) : Prop := s.low = p.1 ∧ s.high = p.2
def Okp (p : Int × Int) : Prop := (InB p.1 ∧ InB p.2) ∧ (p.1 ≤ p.2 ∨ (p.1 = 0 ∧ p.2 = -1))
def addp (p q : Int × Int) : Int × Int := if p.1 ≤ p.2 ∧ q.1 ≤ q.2 then (p.1 + q.1, p.2 + q.2) else (0, -1)
def members (p : Int × Int) : List Int := if 24 < p.2 - p.1 then [] else rangeI p.1 (p.2 + 1 - p.1).toNat
theorem fit_in (n : Int) : InB (fit n) := by
  unfold InB fit
  omega
theorem fit_eq {n : Int} (h : InB n) : fit n = n := by
  unfold InB at h
  unfold fit
  omega
theorem fit_iff {n : Int} : n = fit n ↔ InB n := ⟨fun e => by rw [e]; exact fit_in n, fun h => (fit_eq h).symm⟩
theorem len_tx {n : Int} (h : InB n) : (Str.ofString (toString n)).length ≤ 11 := by
  have h2 : n.natAbs < 10 ^ 10 := by
    unfold InB at h
    omega
  rw [PyProof.Rows.ofString_len]
  cases n with
  | ofNat m =>
    show (Nat.repr m).length ≤ 11
    have e := (Nat.length_repr_le_iff (n := m) (by decide : 0 < 10)).mpr h2
    omega
  | negSucc m =>
    show ("-" ++ Nat.repr (m + 1)).length ≤ 11
    rw [String.length_append]
    have e := (Nat.length_repr_le_iff (n := m + 1) (by decide : 0 < 10)).mpr h2
    have e1 : ("-" : String).length = 1 := by decide
    omega
theorem log_tx {n : Int} (h : InB n) : n.natAbs.log2 < 1920 := by
  by_cases z : n.natAbs = 0
  · rw [z]
    decide
  · refine (Nat.log2_lt z).mpr (Nat.lt_of_lt_of_le (?_ : n.natAbs < 2 ^ 30) (Nat.pow_le_pow_right (by decide) (by decide)))
    unfold InB at h
    omega
theorem text_len {a b : Int} (ha : InB a) (hb : InB b) : (Str.ofString "Span(" ++ Str.ofString (toString a)).length ≤ sizeLine ∧ (Str.ofString "Span(" ++ Str.ofString (toString a) ++ Str.ofString ", ").length ≤ sizeLine ∧
    (Str.ofString "Span(" ++ Str.ofString (toString a) ++ Str.ofString ", " ++ Str.ofString (toString b)).length ≤ sizeLine ∧ (text a b).length ≤ sizeLine := by
  have h1 := len_tx ha
  have h2 := len_tx hb
  have e1 : (Str.ofString "Span(").length = 5 := by decide
  have e2 : (Str.ofString ", ").length = 2 := by decide
  have e3 : (Str.ofString ")").length = 1 := by decide
  unfold text
  simp only [PySem.Str.length_append, e1, e2, e3, sizeLine_eq]
  omega
theorem emp_app (x : Str) : Str.empty ++ x = x := PySem.Str.ext' (by simp only [PySem.Str.cps_append]; exact Array.empty_append)
theorem rangeI_mem {lo : Int} {n : Nat} {x : Int} : x ∈ rangeI lo n ↔ lo ≤ x ∧ x < lo + n := by
  unfold rangeI
  rw [List.mem_map]
  constructor
  · rintro ⟨k, hk, rfl⟩
    have := List.mem_range.mp hk
    omega
  · rintro ⟨h1, h2⟩
    exact ⟨(x - lo).toNat, List.mem_range.mpr (by omega), by omega⟩
theorem rangeI_len {lo : Int} {n : Nat} : (rangeI lo n).length = n := by simp [rangeI]
theorem members_mem {p : Int × Int} {x : Int} (h : x ∈ members p) : (p.1 ≤ x ∧ x ≤ p.2) ∧ p.2 - p.1 ≤ 24 := by
  unfold members at h
  split at h
  · cases h
  · have := rangeI_mem.mp h
    omega
theorem members_len (p : Int × Int) : (members p).length ≤ 25 := by
  unfold members
  split
  · simp
  · rw [rangeI_len]
    omega
theorem mkSp_le {a b : Int} (h : a ≤ b) : mkSp a b = ⟨a, b⟩ := by
  unfold mkSp
  rw [if_neg (by omega)]
theorem mkSp_gt {a b : Int} (h : b < a) : mkSp a b = ⟨0, -1⟩ := by
  unfold mkSp
  rw [if_pos h]
theorem add_rep {a b c d : Int} : Rep (spAdd ⟨a, b⟩ ⟨c, d⟩) (addp (a, b) (c, d)) := by
  unfold spAdd addp
  dsimp only
  by_cases q : a ≤ b ∧ c ≤ d
  · rw [if_pos q, if_pos q, mkSp_le (by omega)]
    exact ⟨rfl, rfl⟩
  · rw [if_neg q, if_neg q, mkSp_gt (by omega)]
    exact ⟨rfl, rfl⟩
theorem addp_comm {a b c d : Int} : addp (a, b) (c, d) = addp (c, d) (a, b) := by
  unfold addp
  dsimp only
  by_cases q : a ≤ b ∧ c ≤ d
  · rw [if_pos q, if_pos ⟨q.2, q.1⟩, Int.add_comm a c, Int.add_comm b d]
  · rw [if_neg q, if_neg (fun z => q ⟨z.2, z.1⟩)]
theorem inb_w {n : Int} (h : InB n) : InW n := by
  unfold InB at h
  unfold InW
  omega
theorem meet_rep {a b c d : Int} (o1 : Okp (a, b)) (o2 : Okp (c, d)) : Rep (mkSp (max a c) (min b d)) (if a ≤ b ∧ c ≤ d then ends (max a c, min b d) else (0, -1)) := by
  unfold Okp at o1 o2
  dsimp only at o1 o2
  by_cases q : a ≤ b ∧ c ≤ d
  · rw [if_pos q]
    unfold ends
    dsimp only
    by_cases r : min b d < max a c
    · rw [if_pos r, mkSp_gt r]
      exact ⟨rfl, rfl⟩
    · rw [if_neg r, mkSp_le (by omega)]
      exact ⟨rfl, rfl⟩
  · rw [if_neg q, mkSp_gt (by omega)]
    exact ⟨rfl, rfl⟩
theorem meet_ok {a b c d : Int} (o1 : Okp (a, b)) (o2 : Okp (c, d)) : Okp (if a ≤ b ∧ c ≤ d then ends (max a c, min b d) else (0, -1)) := by
  unfold Okp InB at *
  dsimp only at o1 o2
  by_cases q : a ≤ b ∧ c ≤ d
  · rw [if_pos q]
    unfold ends
    dsimp only
    by_cases r : min b d < max a c
    · rw [if_pos r]
      dsimp only
      omega
    · rw [if_neg r]
      dsimp only
      omega
  · rw [if_neg q]
    dsimp only
    omega
theorem meet_mem {a b c d x : Int} (h : a ≤ x ∧ x ≤ b) : ((mkSp (max a c) (min b d)).low ≤ x ∧ x ≤ (mkSp (max a c) (min b d)).high) ↔ (c ≤ x ∧ x ≤ d) := by
  by_cases r : min b d < max a c
  · rw [mkSp_gt r]
    dsimp only
    omega
  · rw [mkSp_le (by omega)]
    dsimp only
    omega
theorem mul_rep {a b f : Int} (h : a ≤ b) : Rep (spMul ⟨a, b⟩ f) (min (a * f) (b * f), max (a * f) (b * f)) := by
  unfold spMul
  dsimp only
  rw [if_pos h]
  by_cases q : f < 0
  · have e : b * f ≤ a * f := Int.mul_le_mul_of_nonpos_right h (by omega)
    rw [if_pos q, mkSp_le e]
    exact ⟨by dsimp only; omega, by dsimp only; omega⟩
  · have e : a * f ≤ b * f := Int.mul_le_mul_of_nonneg_right h (by omega)
    rw [if_neg q, mkSp_le e]
    exact ⟨by dsimp only; omega, by dsimp only; omega⟩
theorem mul_mem {a b f x : Int} (h : a ≤ x ∧ x ≤ b) : min (a * f) (b * f) ≤ x * f ∧ x * f ≤ max (a * f) (b * f) := by
  by_cases q : f < 0
  · have e1 : b * f ≤ x * f := Int.mul_le_mul_of_nonpos_right h.2 (by omega)
    have e2 : x * f ≤ a * f := Int.mul_le_mul_of_nonpos_right h.1 (by omega)
    omega
  · have e1 : a * f ≤ x * f := Int.mul_le_mul_of_nonneg_right h.1 (by omega)
    have e2 : x * f ≤ b * f := Int.mul_le_mul_of_nonneg_right h.2 (by omega)
    omega
theorem members_at {a b x : Int} (h : a ≤ x ∧ x ≤ b) (hs : b - a ≤ 24) : x ∈ members (a, b) := by
  unfold members
  rw [if_neg (by dsimp only; omega)]
  exact rangeI_mem.mpr (by dsimp only; omega)
/-! lists without doubles -/
theorem nodup_le : ∀ (ks ls : List Int), ks.Nodup → (∀ k ∈ ks, k ∈ ls) → ks.length ≤ ls.length
  | [], _, _, _ => Nat.zero_le _
  | k :: ks, ls, hn, hs => by
    have hk := hs k List.mem_cons_self
    obtain ⟨h1, h2⟩ := List.nodup_cons.mp hn
    have ih := nodup_le ks (ls.erase k) h2 fun x hx => (List.mem_erase_of_ne (fun e => h1 (by rw [← e]; exact hx))).mpr (hs x (List.mem_cons_of_mem _ hx))
    rw [List.length_erase_of_mem hk] at ih
    have : 0 < ls.length := List.length_pos_of_mem hk
    rw [List.length_cons]
    omega
theorem rangeI_nodup (lo : Int) (n : Nat) : (rangeI lo n).Nodup := by
  unfold rangeI
  rw [List.nodup_iff_pairwise_ne, List.pairwise_map]
  refine List.Pairwise.imp (fun {a b} (h : a < b) => ?_) List.pairwise_lt_range
  omega
theorem any_key {κ : Type} (ks : List Int) (n : Int) : ∀ (s : List (Key × κ)), s.map (·.1) = ks.map Sum.inl → (s.any fun kv => decide (kv.1 = Sum.inl n)) = decide (n ∈ ks) := fun s h => by
  rw [Bool.eq_iff_iff, List.any_eq_true, decide_eq_true_iff]
  constructor
  · rintro ⟨x, hx, e⟩
    have e := of_decide_eq_true e
    have m : x.1 ∈ s.map (·.1) := List.mem_map.mpr ⟨x, hx, rfl⟩
    rw [h, e] at m
    obtain ⟨m', hm, e2⟩ := List.mem_map.mp m
    cases e2
    exact hm
  · intro hn
    have m : (Sum.inl n : Key) ∈ s.map (·.1) := by
      rw [h]
      exact List.mem_map.mpr ⟨n, hn, rfl⟩
    obtain ⟨x, hx, e⟩ := List.mem_map.mp m
    exact ⟨x, hx, decide_eq_true e⟩
theorem putM_keys {κ : Type} {ks : List Int} {n : Int} {v : κ} {s : List (Key × κ)} (h : s.map (·.1) = ks.map Sum.inl) : (putM s (Sum.inl n) v).map (·.1) = (if n ∈ ks then ks else ks ++ [n]).map Sum.inl := by
  unfold putM
  rw [any_key ks n s h]
  by_cases q : n ∈ ks
  · rw [if_pos (decide_eq_true q), if_pos q, ← h, List.map_map]
    refine List.map_congr_left fun x _ => ?_
    show (if x.1 = Sum.inl n then (x.1, v) else x).1 = x.1
    split <;> rfl
  · rw [if_neg (by simpa using q), if_neg q, List.map_append, List.map_append, h]
    rfl
theorem valM_key {κ : Type} {ks : List Int} {n : Int} {s : List (Key × κ)} (h : s.map (·.1) = ks.map Sum.inl) : (valM s (Sum.inl n)).isSome = decide (n ∈ ks) := by
  rw [← any_key ks n s h]
  unfold valM
  rw [Option.isSome_map]
  clear h
  induction s with
  | nil => rfl
  | cons x s ih =>
    rw [List.find?_cons, List.any_cons]
    cases decide (x.1 = Sum.inl n) with
    | true => rfl
    | false => exact ih
/-- the keys found so far -/
structure Found (one two : Int × Int) (xs : List Int) (s : List (Key × Bool)) : Prop where
  ex : ∃ ks : List Int, s.map (·.1) = ks.map Sum.inl ∧ ks.Nodup ∧ (∀ k ∈ ks, ∃ x ∈ members one, ∃ y ∈ members two, k = x + y) ∧ (∀ x ∈ members one, x ∈ xs ∨ ∀ y ∈ members two, x + y ∈ ks)
  sub : ∀ x ∈ xs, x ∈ members one
theorem small_keys {one two : Int × Int} {ks : List Int} (h : ks.Nodup) (hk : ∀ k ∈ ks, ∃ x ∈ members one, ∃ y ∈ members two, k = x + y) : ks.length ≤ 49 := by
  cases ks with
  | nil => simp
  | cons k r =>
    obtain ⟨x, hx, y, hy, _⟩ := hk k List.mem_cons_self
    have e1 := (members_mem hx).2
    have e2 := (members_mem hy).2
    have := nodup_le (k :: r) (rangeI (one.1 + two.1) 49) h fun z hz => by
      obtain ⟨x, hx, y, hy, e⟩ := hk z hz
      have e3 := (members_mem hx).1
      have e4 := (members_mem hy).1
      exact rangeI_mem.mpr (by omega)
    rw [rangeI_len] at this
    exact this
theorem ok_le {a b : Int} (h : Okp (a, b)) : mkSp a b = ⟨a, b⟩ := by
  unfold Okp at h
  dsimp only at h
  rcases h.2 with q | ⟨rfl, rfl⟩
  · exact mkSp_le q
  · exact mkSp_gt (by omega)
theorem ok_up {a b : Int} (h : Okp (a, b)) : mkSp a (b + 1) = ⟨a, b + 1⟩ := by
  unfold Okp at h
  dsimp only at h
  exact mkSp_le (by omega)
theorem ok_dn {a b : Int} : mkSp (a - 1) (max b a) = ⟨a - 1, max b a⟩ := mkSp_le (by omega)
/-- the sums, sorted -/
theorem sorted_sums {lo hi : Int} {ks ys : List Int} (hlo : lo ≤ hi) (hn : ks.Nodup) (hk : ∀ k, k ∈ ks ↔ lo ≤ k ∧ k ≤ hi) (hp : ys.Perm ks) (hs : ys.Pairwise (· ≤ ·)) : atI ys 0 = some lo ∧ (ys.length : Int) = hi + 1 - lo ∧ atI ys ((ys.length : Int) - 1) = some hi := by
  have hm : ∀ k, k ∈ ys ↔ lo ≤ k ∧ k ≤ hi := fun k => hp.mem_iff.trans (hk k)
  have hlen : (ys.length : Int) = hi + 1 - lo := by
    have h1 := nodup_le ks (rangeI lo (hi + 1 - lo).toNat) hn fun k h => rangeI_mem.mpr (by have := (hk k).mp h; omega)
    have h2 := nodup_le (rangeI lo (hi + 1 - lo).toNat) ks (rangeI_nodup _ _) fun k h => (hk k).mpr (by have := rangeI_mem.mp h; omega)
    rw [rangeI_len] at h1 h2
    rw [hp.length_eq]
    omega
  refine ⟨?_, hlen, ?_⟩
  · cases ys with
    | nil => simp at hlen; omega
    | cons y r =>
      rw [at0]
      have h1 := (hm y).mp List.mem_cons_self
      have h2 := (hm lo).mpr ⟨by omega, hlo⟩
      rcases List.mem_cons.mp h2 with e | e
      · rw [e]
      · have := (List.pairwise_cons.mp hs).1 lo e
        rw [show y = lo by omega]
  · have h2 := (hm hi).mpr ⟨hlo, by omega⟩
    have hl : ys.length - 1 < ys.length := by have := List.length_pos_of_mem h2; omega
    have e : atI ys ((ys.length : Int) - 1) = some (ys[ys.length - 1]'hl) := by
      unfold atI ixN
      rw [if_pos (by omega), if_pos (by omega)]
      show ys[((ys.length : Int) - 1).toNat]? = _
      rw [show ((ys.length : Int) - 1).toNat = ys.length - 1 by omega, List.getElem?_eq_getElem hl]
    rw [e]
    have h3 := (hm _).mp (List.getElem_mem hl)
    obtain ⟨j, hj, e2⟩ := List.mem_iff_getElem.mp h2
    have h4 : hi ≤ ys[ys.length - 1]'hl := by
      by_cases q : j = ys.length - 1
      · subst q
        omega
      · have := List.pairwise_iff_getElem.mp hs j (ys.length - 1) hj hl (by omega)
        omega
    rw [show ys[ys.length - 1]'hl = hi by omega]
theorem ends_ok {a b : Int} (ha : InB a) (hb : InB b) : Okp (ends (a, b)) := by
  unfold ends Okp InB at *
  dsimp only
  split <;> dsimp only <;> omega
theorem ends_rep {a b : Int} : Rep (mkSp a b) (ends (a, b)) := by
  unfold ends mkSp
  dsimp only
  split <;> exact ⟨rfl, rfl⟩
theorem emp_mul {f : Int} : spMul ⟨0, -1⟩ f = ⟨0, -1⟩ := by
  unfold spMul
  dsimp only
  rw [if_neg (by omega), mkSp_gt (by omega)]
theorem emp_add {a b c d : Int} (h : ¬ (a ≤ b ∧ c ≤ d)) : spAdd ⟨a, b⟩ ⟨c, d⟩ = ⟨0, -1⟩ := by
  unfold spAdd
  dsimp only
  rw [if_neg h, mkSp_gt (by omega)]
theorem full_add {a b c d : Int} (h : a ≤ b ∧ c ≤ d) : spAdd ⟨a, b⟩ ⟨c, d⟩ = ⟨a + c, b + d⟩ := by
  unfold spAdd
  dsimp only
  rw [if_pos h, mkSp_le (by omega)]
theorem emp_meet {a b c d : Int} (o1 : Okp (a, b)) (o2 : Okp (c, d)) (h : ¬ (a ≤ b ∧ c ≤ d)) : mkSp (max a c) (min b d) = ⟨0, -1⟩ := by
  unfold Okp at o1 o2
  dsimp only at o1 o2
  exact mkSp_gt (by omega)
theorem ok_emp : Okp (0, -1) := by
  unfold Okp InB
  dsimp only
  omega
end K06

set_option Elab.async false
set_option linter.all false
set_option maxRecDepth 100000
set_option maxHeartbeats 1000000
set_option autoImplicit false
namespace K06
open PySem PySem.Spec PyProof.Rows L2 Ty

section
variable {P : Program} {w : World} {K : Fg} {mg : Str → Option Value} {base : Heap}
theorem sc_law_box : FnScope ["script", "cell", "cells", "seed"] ["script"] (defScope s_law_box) := ⟨rfl, rfl, rfl, by decide +kernel, rfl, by decide +kernel, by decide +kernel⟩
theorem ok_law_box (T : Txt K mg) : Ok P w K mg base "_law_box" (He.fAd K ("_law_box", none)) 1 ["script"] (spOf K rs0 (aCons rpQ aNil) rpBx (fun _ post _ => post ())) := by
  obtain ⟨fd, F⟩ := T.d_law_box
  have nd := sc_law_box.nd
  refine ⟨⟨fd, fn_ok F sc_law_box (fun _ => rfl) (fun y cdv A outer s H G E hr => ⟨_, (b_setLc 2 rfl nd (blkOk_by (own := [("cell", 1)]) (by show blkC ["script", "cell", "cells", "seed"] (defScope s_law_box) _ _ = true; decide +kernel)) (by decide) rfl (i_lst (e_sl sl_Q (e_var 0 rfl) o_none (o_some e_int))) (fun _ _ _ _ _ => (g_name 1 nd)) (fun _ _ _ _ _ c2 => ts_nil) (fun _ _ _ _ _ c2 => (JE.conv (e_ct int_I T.f_int (a_cons (e_var 1 rfl) a_nil)) (by first | rfl | (dsimp only [Cx.blk] <;> rfl)) (by first | rfl | (dsimp only [Cx.blk] <;> rfl))))
 (fun cells_1 => (b_set 3 nd e_int
 (fun seed_3 => (b_for (lpS := fun s4 : Int => [.val rpQ y.1, .no, .val (rpL (i := rpI)) cells_1, .val rpI s4]) seed_3 (.cons (.refl _) (.cons (.refl _) (.cons (.refl _) (.cons (.refl _) .nil)))) (passes_of rfl) rfl (i_lst (e_var 2 rfl)) (g_name 1 nd)
 (fun x5 s4 => (b_set 3 nd (e_op mod_I (e_ct int_I T.f_int (a_cons (e_op add_I (e_op add_I (e_op mul_I (e_var 3 rfl) e_int) (e_op mod_I (e_ct int_I T.f_int (a_cons (e_var 1 rfl) a_nil)) e_int)) e_int) a_nil)) e_int)
 (fun seed_6 => (b_nil seed_6 (.cons (.refl _) (.cons (.no _) (.cons (.refl _) (.cons (.refl _) .nil))))))))
 (fun s4 => (b_ret (e_bx (a_cons (e_lc rfl nd (blkOk_by (own := [("cell", 1)]) (by show blkC ["script", "cell", "cells", "seed"] (defScope s_law_box) _ _ = true; decide +kernel)) (by decide) rfl (i_lst (e_var 2 rfl)) (fun _ _ _ _ _ => (g_name 1 nd)) (fun _ _ _ _ _ c7 => (JTs.conv (ts_one (t_cmp ge_I (e_var 1 rfl) (e_op pow_I e_int e_int) (nomark _))) (by first | rfl | (dsimp only [Cx.blk] <;> rfl)) (by first | rfl | (dsimp only [Cx.blk] <;> rfl)))) (fun _ _ _ _ _ c7 => (e_var 1 rfl))) (a_cons e_int (a_cons (e_var 3 rfl) (a_cons e_int a_nil))))))))))))⟩) ?_, F.bindsN fun _ _ _ _ _ _ us hl => match us, hl with | [_], _ => rfl⟩, F.kp, T.g_law_box⟩
  intro y post ep h
  dsimp only [endP, seqP]
  intro hl
  refine ⟨hl, lcP_eq (fun _ => true) id _ (fun _ _ P ep h => h) (fun _ _ _ P ep h => h) ?_⟩
  generalize List.map id (List.filter (fun _ => true) (cutL y.1 none (some 63))) = ms
  intro hm
  refine forP_ind (fun _ _ => True) (fun s _ => ?_) (fun x r s next hn _ => ⟨.inr ⟨by omega, by omega⟩, by omega, by omega, hn _ trivial⟩) _ _ trivial
  intro h2
  exact ⟨h2, lcP_eq (fun c => decide (10 ^ Int.toNat 18 ≤ c)) id ms (fun x _ P ep h => ⟨⟨by omega, by omega, by decide⟩, h⟩) (fun _ _ _ P ep h => h) h⟩
theorem sc_law_draw : FnScope ["box", "size", "pick", "once", "twice", "thrice"] ["box", "size"] (defScope s_law_draw) := ⟨rfl, rfl, rfl, by decide +kernel, rfl, by decide +kernel, by decide +kernel⟩
theorem ok_law_draw (T : Txt K mg) : Ok P w K mg base "_law_draw" (He.fAd K ("_law_draw", none)) 1 ["box", "size"] (spR K rsB (fun q => (aRf q (aCons rpI aNil))) rpI (fun x post _ => (0 < x.1 ∧ x.1 < 1073741824) ∧ ∀ r : Int, 0 ≤ r → r < x.1 → post r)) := by
  obtain ⟨fd, F⟩ := T.d_law_draw
  have nd := sc_law_draw.nd
  refine ⟨⟨fd, fn_okR F sc_law_draw (fun _ _ => rfl) (fun q y cdv A outer s H G E hr => ⟨_, (b_bxTake 0 rfl rfl (ps_if (pw_and (pt_cmpR op_le (pe_ix ix_list (pv 0) pe_int (fun _ _ => rfl)) pe_int (nomark _)) (pw_and1 (pt_cmpR (op_neD hr.units) (pe_ix ix_list (pv 0) pe_int (fun _ _ => rfl)) (pe_lst pa_nil) (nomark _)))).pt (pss_cons (ps_asg (pe_ix ix_list (pe_ix ix_list (pv 0) pe_int (fun _ _ => rfl)) pe_int (fun _ _ => rfl)) (pg_sub (pv 0) pe_int set_list)) (pss_one (ps_asg (pe_slice sl_list (pe_ix ix_list (pv 0) pe_int (fun _ _ => rfl)) (po_some pe_int) po_none) (pg_sub (pv 0) pe_int set_list)))) pss_nil) (b_if (mid := fun s1 : Unit => [.rf q, .val rpI y.1, .no, .no, .no, .no]) (t_cmp gt_I (e_bxI 0 rfl rfl (by decide)) e_int (nomark _))
 (b_set 2 nd (e_op mod_I (e_ct int_I T.f_int (a_cons (e_bxI 0 rfl rfl (by decide)) a_nil)) (e_var 1 rfl))
 (fun pick_2 => (b_bxSet 0 rfl rfl (by decide) (e_op fdiv_I (e_bxI 0 rfl rfl (by decide)) (e_var 1 rfl)) (b_ret (e_var 2 rfl)))))
 (b_nil () (.cons (.refl _) (.cons (.refl _) (.cons (.refl _) (.cons (.refl _) (.cons (.refl _) (.cons (.refl _) .nil)))))))
 (fun s1 => (b_bxSet 0 rfl rfl (by decide) (e_op add_I (e_bxI 0 rfl rfl (by decide)) e_int) (b_set 3 nd (e_op mod_I (e_ct int_I T.f_int (a_cons (e_op add_I (e_op add_I (e_op mul_I (e_bxI 0 rfl rfl (by decide)) e_int) (e_op mul_I (e_bxI 0 rfl rfl (by decide)) e_int)) e_int) a_nil)) e_int)
 (fun once_3 => (b_set 4 nd (e_op mod_I (e_ct int_I T.f_int (a_cons (e_op add_I (e_op add_I (e_op mul_I (e_var 3 rfl) (e_var 3 rfl)) (e_op mul_I (e_bxI 0 rfl rfl (by decide)) e_int)) (e_op fdiv_I (e_bxI 0 rfl rfl (by decide)) e_int)) a_nil)) e_int)
 (fun twice_4 => (b_set 5 nd (e_op mod_I (e_ct int_I T.f_int (a_cons (e_op add_I (e_op add_I (e_op mul_I (e_var 4 rfl) e_int) (e_op mul_I (e_op fdiv_I (e_var 4 rfl) e_int) e_int)) (e_op fdiv_I (e_var 3 rfl) e_int)) a_nil)) e_int)
 (fun thrice_5 => (b_ret (e_op mod_I (e_ct int_I T.f_int (a_cons (e_op fdiv_I (e_var 5 rfl) e_int) a_nil)) (e_var 1 rfl)))))))))))))⟩) ?_, F.bindsN fun _ _ _ _ _ _ us hl => match us, hl with | [_, _], _ => rfl⟩, F.kp, T.g_law_draw⟩
  intro y post ep h
  dsimp only [endP, seqP]
  obtain ⟨⟨h1, h2⟩, h3⟩ := h
  have e : ∀ n : Int, post (n % y.1) := fun n => h3 _ (Int.emod_nonneg _ (by omega)) (Int.emod_lt_of_pos _ h1)
  repeat' first | exact e _ | split | refine And.intro ?_ ?_ | intro _
  all_goals first | omega | exact Or.inr ⟨by omega, by omega⟩ | exact Or.inl ⟨by omega, by omega⟩
theorem sc_law_fit : FnScope ["number"] ["number"] (defScope s_law_fit) := ⟨rfl, rfl, rfl, by decide +kernel, rfl, by decide +kernel, by decide +kernel⟩
theorem ok_law_fit (T : Txt K mg) : Ok P w K mg base "_law_fit" (He.fAd K ("_law_fit", none)) 1 ["number"] (spOf K rs0 (aCons rpI aNil) rpI (fun x post _ => post (fit x.1))) := by
  obtain ⟨fd, F⟩ := T.d_law_fit
  have nd := sc_law_fit.nd
  refine ⟨⟨fd, fn_ok F sc_law_fit (fun _ => rfl) (fun y cdv A outer s H G E hr => ⟨_, (b_ret (e_cb (max_I rfl) T.f_max (a_cons (e_un neg_I e_int) (a_cons (e_cb (min_I rfl) T.f_min (a_cons e_int (a_cons (e_var 0 rfl) a_nil))) a_nil))))⟩) ?_, F.bindsN fun _ _ _ _ _ _ us hl => match us, hl with | [_], _ => rfl⟩, F.kp, T.g_law_fit⟩
  intro y post ep h
  dsimp only [endP, seqP]
  exact h
theorem sc_law_number : FnScope ["box", "way", "sign"] ["box"] (defScope s_law_number) := ⟨rfl, rfl, rfl, by decide +kernel, rfl, by decide +kernel, by decide +kernel⟩
theorem ok_law_number (T : Txt K mg) : Ok P w K mg base "_law_number" (He.fAd K ("_law_number", none)) 2 ["box"] (spR K rsB (fun q => (aRf q aNil)) rpI (fun _ post _ => ∀ n : Int, InB n → post n)) := by
  obtain ⟨fd_law_draw, F_law_draw, B_law_draw⟩ := (ok_law_draw (P := P) (w := w) (base := base) T).ex
  have K_law_draw := (ok_law_draw (P := P) (w := w) (base := base) T).kp
  have G_law_draw := (ok_law_draw (P := P) (w := w) (base := base) T).gm
  obtain ⟨fd_law_fit, F_law_fit, B_law_fit⟩ := (ok_law_fit (P := P) (w := w) (base := base) T).ex
  have K_law_fit := (ok_law_fit (P := P) (w := w) (base := base) T).kp
  have G_law_fit := (ok_law_fit (P := P) (w := w) (base := base) T).gm
  obtain ⟨fd, F⟩ := T.d_law_number
  have nd := sc_law_number.nd
  refine ⟨⟨fd, fn_okR F sc_law_number (fun _ _ => rfl) (fun q y cdv A outer s H G E hr => ⟨_, (b_set 1 nd (e_callR rfl F_law_draw (hr.mono (by decide)) G_law_draw K_law_draw B_law_draw (takes_of rfl rfl rfl rfl) (a_rf 0 rfl (a_cons e_int a_nil)))
 (fun way_1 => (b_set 2 nd (e_op sub_I e_int (e_op mul_I e_int (e_callR rfl F_law_draw (hr.mono (by decide)) G_law_draw K_law_draw B_law_draw (takes_of rfl rfl rfl rfl) (a_rf 0 rfl (a_cons e_int a_nil)))))
 (fun sign_2 => (b_if (mid := fun s3 : Unit => [.rf q, .val rpI way_1, .val rpI sign_2]) (t_cmp eq_V (e_var 1 rfl) e_int (nomark _))
 (b_ret e_int)
 (b_nil () (.cons (.refl _) (.cons (.refl _) (.cons (.refl _) .nil))))
 (fun s3 => (b_if (mid := fun s4 : Unit => [.rf q, .val rpI way_1, .val rpI sign_2]) (t_cmp eq_V (e_var 1 rfl) e_int (nomark _))
 (b_ret (e_op mul_I (e_var 2 rfl) (e_callR rfl F_law_draw (hr.mono (by decide)) G_law_draw K_law_draw B_law_draw (takes_of rfl rfl rfl rfl) (a_rf 0 rfl (a_cons e_int a_nil)))))
 (b_nil () (.cons (.refl _) (.cons (.refl _) (.cons (.refl _) .nil))))
 (fun s4 => (b_if (mid := fun s5 : Unit => [.rf q, .val rpI way_1, .val rpI sign_2]) (t_cmp eq_V (e_var 1 rfl) e_int (nomark _))
 (b_ret (e_op mul_I (e_var 2 rfl) (e_callR rfl F_law_draw (hr.mono (by decide)) G_law_draw K_law_draw B_law_draw (takes_of rfl rfl rfl rfl) (a_rf 0 rfl (a_cons e_int a_nil)))))
 (b_nil () (.cons (.refl _) (.cons (.refl _) (.cons (.refl _) .nil))))
 (fun s5 => (b_if (mid := fun s6 : Unit => [.rf q, .val rpI way_1, .val rpI sign_2]) (t_cmp eq_V (e_var 1 rfl) e_int (nomark _))
 (b_ret (e_op mul_I (e_var 2 rfl) (e_callR rfl F_law_draw (hr.mono (by decide)) G_law_draw K_law_draw B_law_draw (takes_of rfl rfl rfl rfl) (a_rf 0 rfl (a_cons e_int a_nil)))))
 (b_nil () (.cons (.refl _) (.cons (.refl _) (.cons (.refl _) .nil))))
 (fun s6 => (b_if (mid := fun s7 : Unit => [.rf q, .val rpI way_1, .val rpI sign_2]) (t_cmp eq_V (e_var 1 rfl) e_int (nomark _))
 (b_ret (e_op mul_I (e_var 2 rfl) (e_op sub_I e_int (e_callR rfl F_law_draw (hr.mono (by decide)) G_law_draw K_law_draw B_law_draw (takes_of rfl rfl rfl rfl) (a_rf 0 rfl (a_cons e_int a_nil))))))
 (b_nil () (.cons (.refl _) (.cons (.refl _) (.cons (.refl _) .nil))))
 (fun s7 => (b_ret (e_call F_law_fit (hr.mono (by decide)) G_law_fit K_law_fit B_law_fit (takes_of rfl rfl rfl rfl) (a_cons (e_op mul_I (e_var 2 rfl) (e_op add_I (e_op mul_I (e_callR rfl F_law_draw (hr.mono (by decide)) G_law_draw K_law_draw B_law_draw (takes_of rfl rfl rfl rfl) (a_rf 0 rfl (a_cons e_int a_nil))) e_int) (e_callR rfl F_law_draw (hr.mono (by decide)) G_law_draw K_law_draw B_law_draw (takes_of rfl rfl rfl rfl) (a_rf 0 rfl (a_cons e_int a_nil))))) a_nil)))))))))))))))))⟩) ?_, F.bindsN fun _ _ _ _ _ _ us hl => match us, hl with | [_], _ => rfl⟩, F.kp, T.g_law_number⟩
  intro y post ep h
  dsimp only [endP, seqP]
  simp only [decide_eq_true_eq]
  refine ⟨⟨by omega, by omega⟩, fun way w1 w2 => ⟨⟨by omega, by omega⟩, fun s s1 s2 => ⟨.inl ⟨by omega, by omega⟩, ?_⟩⟩⟩
  have hs : 1 - 2 * s = 1 ∨ 1 - 2 * s = -1 := by omega
  have pm : ∀ m : Int, 0 ≤ m → m ≤ 999999999 → post ((1 - 2 * s) * m) := fun m a b => h _ (by unfold InB; rcases hs with e | e <;> rw [e] <;> omega)
  have cm : ∀ m : Int, CMul (1 - 2 * s) m := fun m => .inl ⟨by omega, by omega⟩
  have pf : ∀ m, post (fit m) := fun m => h _ (fit_in m)
  repeat' first | exact cm _ | exact pf _ | split | refine And.intro ?_ ?_ | intro _
  all_goals first | omega | exact pm _ (by omega) (by omega) | exact h _ (by unfold InB; omega) | exact Or.inl ⟨by omega, by omega⟩ | exact Or.inr ⟨by omega, by omega⟩
theorem sc_law_pair : FnScope ["box", "near", "start", "way", "stop"] ["box", "near"] (defScope s_law_pair) := ⟨rfl, rfl, rfl, by decide +kernel, rfl, by decide +kernel, by decide +kernel⟩
theorem ok_law_pair (T : Txt K mg) : Ok P w K mg base "_law_pair" (He.fAd K ("_law_pair", none)) 3 ["box", "near"] (spR K rsB (fun q => (aRf q (aCons (rp2 (i := rpI) (j := rpI)) aNil))) (rp2 (i := rpI) (j := rpI)) (fun x post _ => (InB x.1.1 ∧ InB x.1.2) ∧ ∀ a b : Int, InB a → InB b → post (a, b))) := by
  obtain ⟨fd_law_number, F_law_number, B_law_number⟩ := (ok_law_number (P := P) (w := w) (base := base) T).ex
  have K_law_number := (ok_law_number (P := P) (w := w) (base := base) T).kp
  have G_law_number := (ok_law_number (P := P) (w := w) (base := base) T).gm
  obtain ⟨fd_law_draw, F_law_draw, B_law_draw⟩ := (ok_law_draw (P := P) (w := w) (base := base) T).ex
  have K_law_draw := (ok_law_draw (P := P) (w := w) (base := base) T).kp
  have G_law_draw := (ok_law_draw (P := P) (w := w) (base := base) T).gm
  obtain ⟨fd_law_fit, F_law_fit, B_law_fit⟩ := (ok_law_fit (P := P) (w := w) (base := base) T).ex
  have K_law_fit := (ok_law_fit (P := P) (w := w) (base := base) T).kp
  have G_law_fit := (ok_law_fit (P := P) (w := w) (base := base) T).gm
  obtain ⟨fd, F⟩ := T.d_law_pair
  have nd := sc_law_pair.nd
  refine ⟨⟨fd, fn_okR F sc_law_pair (fun _ _ => rfl) (fun q y cdv A outer s H G E hr => ⟨_, (b_set 2 nd (e_callR rfl F_law_number (hr.mono (by decide)) G_law_number K_law_number B_law_number (takes_of rfl rfl rfl rfl) (a_rf 0 rfl a_nil))
 (fun start_1 => (b_if (mid := fun s2 : Int => [.rf q, .val (rp2 (i := rpI) (j := rpI)) y.1, .val rpI s2, .no, .no]) (t_cmp eq_V (e_callR rfl F_law_draw (hr.mono (by decide)) G_law_draw K_law_draw B_law_draw (takes_of rfl rfl rfl rfl) (a_rf 0 rfl (a_cons e_int a_nil))) e_int (nomark _))
 (b_set 2 nd (e_op sub_I (e_op add_I (e_ix ix_2c (e_var 1 rfl) (e_callR rfl F_law_draw (hr.mono (by decide)) G_law_draw K_law_draw B_law_draw (takes_of rfl rfl rfl rfl) (a_rf 0 rfl (a_cons e_int a_nil)))) (e_callR rfl F_law_draw (hr.mono (by decide)) G_law_draw K_law_draw B_law_draw (takes_of rfl rfl rfl rfl) (a_rf 0 rfl (a_cons e_int a_nil)))) e_int)
 (fun start_3 => (b_nil start_3 (.cons (.refl _) (.cons (.refl _) (.cons (.refl _) (.cons (.refl _) (.cons (.refl _) .nil))))))))
 (b_nil start_1 (.cons (.refl _) (.cons (.refl _) (.cons (.refl _) (.cons (.refl _) (.cons (.refl _) .nil))))))
 (fun s2 => (b_set 3 nd (e_callR rfl F_law_draw (hr.mono (by decide)) G_law_draw K_law_draw B_law_draw (takes_of rfl rfl rfl rfl) (a_rf 0 rfl (a_cons e_int a_nil)))
 (fun way_4 => (b_set 4 nd (e_op add_I (e_op add_I (e_var 2 rfl) e_int) (e_callR rfl F_law_draw (hr.mono (by decide)) G_law_draw K_law_draw B_law_draw (takes_of rfl rfl rfl rfl) (a_rf 0 rfl (a_cons e_int a_nil))))
 (fun stop_5 => (b_if (mid := fun s6 : Int => [.rf q, .val (rp2 (i := rpI) (j := rpI)) y.1, .val rpI s2, .val rpI way_4, .val rpI s6]) (t_cmp eq_V (e_var 3 rfl) e_int (nomark _))
 (b_set 4 nd (e_op sub_I (e_op sub_I (e_var 2 rfl) e_int) (e_callR rfl F_law_draw (hr.mono (by decide)) G_law_draw K_law_draw B_law_draw (takes_of rfl rfl rfl rfl) (a_rf 0 rfl (a_cons e_int a_nil))))
 (fun stop_7 => (b_nil stop_7 (.cons (.refl _) (.cons (.refl _) (.cons (.refl _) (.cons (.refl _) (.cons (.refl _) .nil))))))))
 (b_nil stop_5 (.cons (.refl _) (.cons (.refl _) (.cons (.refl _) (.cons (.refl _) (.cons (.refl _) .nil))))))
 (fun s6 => (b_if (mid := fun s8 : Int => [.rf q, .val (rp2 (i := rpI) (j := rpI)) y.1, .val rpI s2, .val rpI way_4, .val rpI s8]) (t_cmp eq_V (e_var 3 rfl) e_int (nomark _))
 (b_set 4 nd (e_var 2 rfl)
 (fun stop_9 => (b_nil stop_9 (.cons (.refl _) (.cons (.refl _) (.cons (.refl _) (.cons (.refl _) (.cons (.refl _) .nil))))))))
 (b_nil s6 (.cons (.refl _) (.cons (.refl _) (.cons (.refl _) (.cons (.refl _) (.cons (.refl _) .nil))))))
 (fun s8 => (b_if (mid := fun s10 : Int => [.rf q, .val (rp2 (i := rpI) (j := rpI)) y.1, .val rpI s2, .val rpI way_4, .val rpI s10]) (t_cmp eq_V (e_var 3 rfl) e_int (nomark _))
 (b_set 4 nd (e_op add_I (e_var 2 rfl) (e_callR rfl F_law_draw (hr.mono (by decide)) G_law_draw K_law_draw B_law_draw (takes_of rfl rfl rfl rfl) (a_rf 0 rfl (a_cons e_int a_nil))))
 (fun stop_11 => (b_nil stop_11 (.cons (.refl _) (.cons (.refl _) (.cons (.refl _) (.cons (.refl _) (.cons (.refl _) .nil))))))))
 (b_nil s8 (.cons (.refl _) (.cons (.refl _) (.cons (.refl _) (.cons (.refl _) (.cons (.refl _) .nil))))))
 (fun s10 => (b_if (mid := fun s12 : Int => [.rf q, .val (rp2 (i := rpI) (j := rpI)) y.1, .val rpI s2, .val rpI way_4, .val rpI s12]) (t_cmp eq_V (e_var 3 rfl) e_int (nomark _))
 (b_set 4 nd (e_callR rfl F_law_number (hr.mono (by decide)) G_law_number K_law_number B_law_number (takes_of rfl rfl rfl rfl) (a_rf 0 rfl a_nil))
 (fun stop_13 => (b_nil stop_13 (.cons (.refl _) (.cons (.refl _) (.cons (.refl _) (.cons (.refl _) (.cons (.refl _) .nil))))))))
 (b_nil s10 (.cons (.refl _) (.cons (.refl _) (.cons (.refl _) (.cons (.refl _) (.cons (.refl _) .nil))))))
 (fun s12 => (b_ret (e_tup2 (a_cons (e_call F_law_fit (hr.mono (by decide)) G_law_fit K_law_fit B_law_fit (takes_of rfl rfl rfl rfl) (a_cons (e_var 2 rfl) a_nil)) (a_cons (e_call F_law_fit (hr.mono (by decide)) G_law_fit K_law_fit B_law_fit (takes_of rfl rfl rfl rfl) (a_cons (e_var 4 rfl) a_nil)) a_nil))))))))))))))))))))⟩) ?_, F.bindsN fun _ _ _ _ _ _ us hl => match us, hl with | [_, _], _ => rfl⟩, F.kp, T.g_law_pair⟩
  intro y post ep h
  dsimp only [endP, seqP]
  simp only [decide_eq_true_eq]
  have pf : ∀ a b, post (fit a, fit b) := fun a b => h.2 _ _ (fit_in _) (fit_in _)
  intro n hn
  refine ⟨⟨by omega, by omega⟩, fun c c1 c2 => ?_⟩
  split
  · refine ⟨⟨by omega, by omega⟩, fun k k1 k2 => ?_⟩
    rcases (show k = 0 ∨ k = 1 by omega) with rfl | rfl
    · refine .inl ⟨rfl, ?_⟩
      repeat' first | exact pf _ _ | split | refine And.intro ?_ ?_ | intro _
      all_goals omega
    · refine .inr ⟨rfl, ?_⟩
      repeat' first | exact pf _ _ | split | refine And.intro ?_ ?_ | intro _
      all_goals omega
  · repeat' first | exact pf _ _ | split | refine And.intro ?_ ?_ | intro _
    all_goals omega
theorem sc_law_ends : FnScope ["pair"] ["pair"] (defScope s_law_ends) := ⟨rfl, rfl, rfl, by decide +kernel, rfl, by decide +kernel, by decide +kernel⟩
theorem ok_law_ends (T : Txt K mg) : Ok P w K mg base "_law_ends" (He.fAd K ("_law_ends", none)) 1 ["pair"] (spOf K rs0 (aCons (rp2 (i := rpI) (j := rpI)) aNil) (rp2 (i := rpI) (j := rpI)) (fun x post _ => post (ends x.1))) := by
  obtain ⟨fd, F⟩ := T.d_law_ends
  have nd := sc_law_ends.nd
  refine ⟨⟨fd, fn_ok F sc_law_ends (fun _ => rfl) (fun y cdv A outer s H G E hr => ⟨_, (b_if (mid := fun s1 : Unit => [.val (rp2 (i := rpI) (j := rpI)) y.1]) (t_cmp gt_I (e_ix ix_2a (e_var 0 rfl) e_int) (e_ix ix_2b (e_var 0 rfl) e_int) (nomark _))
 (b_ret (e_tup2 (a_cons e_int (a_cons (e_un neg_I e_int) a_nil))))
 (b_nil () (.cons (.refl _) .nil))
 (fun s1 => (b_ret (e_var 0 rfl))))⟩) ?_, F.bindsN fun _ _ _ _ _ _ us hl => match us, hl with | [_], _ => rfl⟩, F.kp, T.g_law_ends⟩
  intro y post ep h
  dsimp only [endP, seqP]
  refine ⟨rfl, rfl, ?_⟩
  unfold ends at h
  split at h
  · rename_i q
    rw [if_pos (decide_eq_true q)]
    exact h
  · rename_i q
    rw [if_neg (by simpa using q)]
    exact h
theorem sc_law_fits : FnScope ["pair"] ["pair"] (defScope s_law_fits) := ⟨rfl, rfl, rfl, by decide +kernel, rfl, by decide +kernel, by decide +kernel⟩
theorem ok_law_fits (T : Txt K mg) : Ok P w K mg base "_law_fits" (He.fAd K ("_law_fits", none)) 2 ["pair"] (spOf K rs0 (aCons (rp2 (i := rpI) (j := rpI)) aNil) rpB (fun x post _ => post (fits x.1))) := by
  obtain ⟨fd_law_fit, F_law_fit, B_law_fit⟩ := (ok_law_fit (P := P) (w := w) (base := base) T).ex
  have K_law_fit := (ok_law_fit (P := P) (w := w) (base := base) T).kp
  have G_law_fit := (ok_law_fit (P := P) (w := w) (base := base) T).gm
  obtain ⟨fd, F⟩ := T.d_law_fits
  have nd := sc_law_fits.nd
  refine ⟨⟨fd, fn_ok F sc_law_fits (fun _ => rfl) (fun y cdv A outer s H G E hr => ⟨_, (b_ret (e_and (e_cmp eq_V (e_ix ix_2a (e_var 0 rfl) e_int) (e_call F_law_fit (hr.mono (by decide)) G_law_fit K_law_fit B_law_fit (takes_of rfl rfl rfl rfl) (a_cons (e_ix ix_2a (e_var 0 rfl) e_int) a_nil)) (nomark _)) (e_one (e_cmp eq_V (e_ix ix_2b (e_var 0 rfl) e_int) (e_call F_law_fit (hr.mono (by decide)) G_law_fit K_law_fit B_law_fit (takes_of rfl rfl rfl rfl) (a_cons (e_ix ix_2b (e_var 0 rfl) e_int) a_nil)) (nomark _)))))⟩) ?_, F.bindsN fun _ _ _ _ _ _ us hl => match us, hl with | [_], _ => rfl⟩, F.kp, T.g_law_fits⟩
  intro y post ep h
  dsimp only [endP, seqP]
  refine ⟨rfl, rfl, ?_⟩
  unfold fits at h
  by_cases q : InB y.1.1
  · rw [if_pos (decide_eq_true (fit_iff.mpr q))]
    refine ⟨rfl, rfl, ?_⟩
    rw [show decide (y.1.2 = fit y.1.2) = decide (InB y.1.1 ∧ InB y.1.2) from decide_eq_decide.mpr (fit_iff.trans ⟨fun z => ⟨q, z⟩, fun z => z.2⟩)]
    exact h
  · rw [if_neg (fun z => q (fit_iff.mp (of_decide_eq_true z)))]
    rw [decide_eq_false (fun z => q z.1)] at h
    exact h
theorem sc_law_is_whole : FnScope ["told", "due"] ["told", "due"] (defScope s_law_is_whole) := ⟨rfl, rfl, rfl, by decide +kernel, rfl, by decide +kernel, by decide +kernel⟩
theorem ok_law_is_whole (T : Txt K mg) : Ok P w K mg base "_law_is_whole" (He.fAd K ("_law_is_whole", none)) 1 ["told", "due"] (spOf K rs0 (aCons rpI (aCons rpI aNil)) rpB (fun x post _ => post (decide (x.1 = x.2.1)))) := by
  obtain ⟨fd, F⟩ := T.d_law_is_whole
  have nd := sc_law_is_whole.nd
  refine ⟨⟨fd, fn_ok F sc_law_is_whole (fun _ => rfl) (fun y cdv A outer s H G E hr => ⟨_, (b_ret (e_and (e_cb (isiw (cv := .ty "int") (u := .type "int") (b := true) tyI (.ty _) (L2.kit_ty (by decide +kernel))) T.f_isinstance (a_cons (e_var 0 rfl) (a_cons (e_clsB T.f_int) a_nil))) (e_and (e_not (e_cb (isiw (cv := .ty "bool") (u := .type "bool") (b := false) tyI (.ty _) (L2.kit_ty (by decide +kernel))) T.f_isinstance (a_cons (e_var 0 rfl) (a_cons (e_clsB T.f_bool) a_nil)))) (e_one (e_cmp eq_V (e_var 0 rfl) (e_var 1 rfl) (nomark _))))))⟩) ?_, F.bindsN fun _ _ _ _ _ _ us hl => match us, hl with | [_, _], _ => rfl⟩, F.kp, T.g_law_is_whole⟩
  intro y post ep h
  dsimp only [endP, seqP]
  exact h
theorem sc_law_says : FnScope ["told", "due"] ["told", "due"] (defScope s_law_says) := ⟨rfl, rfl, rfl, by decide +kernel, rfl, by decide +kernel, by decide +kernel⟩
theorem ok_law_says (T : Txt K mg) : Ok P w K mg base "_law_says" (He.fAd K ("_law_says", none)) 1 ["told", "due"] (spOf K rs0 (aCons rpB (aCons rpB aNil)) rpB (fun x post _ => post (decide (x.1 = x.2.1)))) := by
  obtain ⟨fd, F⟩ := T.d_law_says
  have nd := sc_law_says.nd
  refine ⟨⟨fd, fn_ok F sc_law_says (fun _ => rfl) (fun y cdv A outer s H G E hr => ⟨_, (b_ret (e_and (e_cb (isiw (cv := .ty "bool") (u := .type "bool") (b := true) tyB (.ty _) (L2.kit_ty (by decide +kernel))) T.f_isinstance (a_cons (e_var 0 rfl) (a_cons (e_clsB T.f_bool) a_nil))) (e_one (e_cmp eq_V (e_var 0 rfl) (e_var 1 rfl) (nomark _)))))⟩) ?_, F.bindsN fun _ _ _ _ _ _ us hl => match us, hl with | [_, _], _ => rfl⟩, F.kp, T.g_law_says⟩
  intro y post ep h
  dsimp only [endP, seqP]
  exact h
theorem sc_Span_bool : FnScope ["self"] ["self"] (defScope s_Span_bool) := ⟨rfl, rfl, rfl, by decide +kernel, rfl, by decide +kernel, by decide +kernel⟩
theorem ok_Span_bool (T : Txt K mg) : OkM P w K mg base (He.fAd K ("Span", some "__bool__")) 1 ["self"] (spOf K rs0 (aCons rpSp aNil) rpB (fun x post _ => post (decide (x.1.low ≤ x.1.high)))) := by
  obtain ⟨fd, F⟩ := T.d_Span_bool
  have nd := sc_Span_bool.nd
  refine ⟨⟨fd, fn_ok F sc_Span_bool (fun _ => rfl) (fun y cdv A outer s H G E hr => ⟨_, (b_ret (e_ct bool_B T.f_bool (a_cons (e_cmp le_I (e_fld (fld_low T) (e_var 0 rfl)) (e_fld (fld_high T) (e_var 0 rfl)) (nomark _)) a_nil)))⟩) ?_, F.bindsN fun _ _ _ _ _ _ us hl => match us, hl with | [_], _ => rfl⟩, F.kp⟩
  intro y post ep h
  dsimp only [endP, seqP]
  exact h
theorem sc_Span_len : FnScope ["self"] ["self"] (defScope s_Span_len) := ⟨rfl, rfl, rfl, by decide +kernel, rfl, by decide +kernel, by decide +kernel⟩
theorem ok_Span_len (T : Txt K mg) : OkM P w K mg base (He.fAd K ("Span", some "__len__")) 1 ["self"] (spOf K rs0 (aCons rpSp aNil) rpI (fun x post _ => x.1.high - x.1.low < 2 ^ 62 ∧ post (max 0 (x.1.high + 1 - x.1.low)))) := by
  obtain ⟨fd, F⟩ := T.d_Span_len
  have nd := sc_Span_len.nd
  refine ⟨⟨fd, fn_ok F sc_Span_len (fun _ => rfl) (fun y cdv A outer s H G E hr => ⟨_, (b_ret (e_cb len_R T.f_len (a_cons (e_ct rng_2 T.f_range (a_cons (e_fld (fld_low T) (e_var 0 rfl)) (a_cons (e_op add_I (e_fld (fld_high T) (e_var 0 rfl)) e_int) a_nil))) a_nil)))⟩) ?_, F.bindsN fun _ _ _ _ _ _ us hl => match us, hl with | [_], _ => rfl⟩, F.kp⟩
  intro y post ep h
  dsimp only [endP, seqP]
  exact ⟨by have := h.1; omega, h.2⟩
theorem sc_Span_contains : FnScope ["self", "number"] ["self", "number"] (defScope s_Span_contains) := ⟨rfl, rfl, rfl, by decide +kernel, rfl, by decide +kernel, by decide +kernel⟩
theorem ok_Span_contains (T : Txt K mg) : OkM P w K mg base (He.fAd K ("Span", some "__contains__")) 1 ["self", "number"] (spOf K rs0 (aCons rpSp (aCons rpI aNil)) rpB (fun x post _ => post (decide (x.1.low ≤ x.2.1 ∧ x.2.1 ≤ x.1.high)))) := by
  obtain ⟨fd, F⟩ := T.d_Span_contains
  have nd := sc_Span_contains.nd
  refine ⟨⟨fd, fn_ok F sc_Span_contains (fun _ => rfl) (fun y cdv A outer s H G E hr => ⟨_, (b_ret (e_chain le_I le_I (e_fld (fld_low T) (e_var 0 rfl)) (e_var 1 rfl) (e_fld (fld_high T) (e_var 0 rfl))))⟩) ?_, F.bindsN fun _ _ _ _ _ _ us hl => match us, hl with | [_, _], _ => rfl⟩, F.kp⟩
  intro y post ep h
  dsimp only [endP, seqP]
  by_cases q : y.1.low ≤ y.2.1
  · rw [if_pos (decide_eq_true q)]
    rw [show decide (y.2.1 ≤ y.1.high) = decide (y.1.low ≤ y.2.1 ∧ y.2.1 ≤ y.1.high) from decide_eq_decide.mpr ⟨fun z => ⟨q, z⟩, fun z => z.2⟩]
    exact h
  · rw [if_neg (fun z => q (of_decide_eq_true z))]
    rw [decide_eq_false (fun z => q z.1)] at h
    exact h
theorem sc_Span_eq : FnScope ["self", "other"] ["self", "other"] (defScope s_Span_eq) := ⟨rfl, rfl, rfl, by decide +kernel, rfl, by decide +kernel, by decide +kernel⟩
theorem ok_Span_eq (T : Txt K mg) : OkM P w K mg base (He.fAd K ("Span", some "__eq__")) 1 ["self", "other"] (spOf K rs0 (aCons rpSp (aCons rpSp aNil)) rpB (fun x post _ => post (decide (x.1.low = x.2.1.low ∧ x.1.high = x.2.1.high)))) := by
  obtain ⟨fd, F⟩ := T.d_Span_eq
  have nd := sc_Span_eq.nd
  refine ⟨⟨fd, fn_ok F sc_Span_eq (fun _ => rfl) (fun y cdv A outer s H G E hr => ⟨_, (b_if (mid := fun s1 : Unit => [.val rpSp y.1, .val rpSp y.2.1]) (t_not (t_val (e_cb (isiw (cv := .ref (He.ga K "Span")) (u := .ref (He.ga K "Span")) (b := true) (tyO ins_Sp T.oc) (.own _) T.k_oo) T.f_isinstance (a_cons (e_var 1 rfl) (a_cons (e_clsO T.g_Span) a_nil)))))
 (b_ret e_bool)
 (b_nil () (.cons (.refl _) (.cons (.refl _) .nil)))
 (fun s1 => (b_ret (e_and (e_cmp eq_V (e_fld (fld_low T) (e_var 0 rfl)) (e_fld (fld_low T) (e_var 1 rfl)) (nomark _)) (e_one (e_cmp eq_V (e_fld (fld_high T) (e_var 0 rfl)) (e_fld (fld_high T) (e_var 1 rfl)) (nomark _)))))))⟩) ?_, F.bindsN fun _ _ _ _ _ _ us hl => match us, hl with | [_, _], _ => rfl⟩, F.kp⟩
  intro y post ep h
  dsimp only [endP, seqP]
  rw [if_neg (by simp)]
  by_cases q : y.1.low = y.2.1.low
  · rw [if_pos (decide_eq_true q)]
    rw [show decide (y.1.high = y.2.1.high) = decide (y.1.low = y.2.1.low ∧ y.1.high = y.2.1.high) from decide_eq_decide.mpr ⟨fun z => ⟨q, z⟩, fun z => z.2⟩]
    exact h
  · rw [if_neg (fun z => q (of_decide_eq_true z))]
    rw [decide_eq_false (fun z => q z.1)] at h
    exact h
theorem sc_Span_repr : FnScope ["self"] ["self"] (defScope s_Span_repr) := ⟨rfl, rfl, rfl, by decide +kernel, rfl, by decide +kernel, by decide +kernel⟩
theorem ok_Span_repr (T : Txt K mg) : OkM P w K mg base (He.fAd K ("Span", some "__repr__")) 1 ["self"] (spOf K rs0 (aCons rpSp aNil) rpS (fun x post _ => (InB x.1.low ∧ InB x.1.high) ∧ post (text x.1.low x.1.high))) := by
  obtain ⟨fd, F⟩ := T.d_Span_repr
  have nd := sc_Span_repr.nd
  refine ⟨⟨fd, fn_ok F sc_Span_repr (fun _ => rfl) (fun y cdv A outer s H G E hr => ⟨_, (b_ret (e_fstr (f_cons e_str (f_cons (e_fmtI (e_fld (fld_low T) (e_var 0 rfl))) (f_cons e_str (f_cons (e_fmtI (e_fld (fld_high T) (e_var 0 rfl))) (f_cons e_str f_nil)))))))⟩) ?_, F.bindsN fun _ _ _ _ _ _ us hl => match us, hl with | [_], _ => rfl⟩, F.kp⟩
  intro y post ep h
  dsimp only [endP, seqP]
  obtain ⟨⟨h1, h2⟩, h3⟩ := h
  obtain ⟨a1, a2, a3, a4⟩ := text_len h1 h2
  simp only [emp_app]
  exact ⟨by rw [sizeLine_eq]; decide, log_tx h1, a1, a2, log_tx h2, a3, a4, h3⟩
theorem sc_Span_add : FnScope ["self", "other"] ["self", "other"] (defScope s_Span_add) := ⟨rfl, rfl, rfl, by decide +kernel, rfl, by decide +kernel, by decide +kernel⟩
theorem ok_Span_add (T : Txt K mg) : OkM P w K mg base (He.fAd K ("Span", some "__add__")) 3 ["self", "other"] (spOf K rs0 (aCons rpSp (aCons rpSp aNil)) rpSp (fun x post _ => post (spAdd x.1 x.2.1))) := by
  obtain ⟨fd_Span_bool, F_Span_bool, B_Span_bool⟩ := (ok_Span_bool (P := P) (w := w) (base := base) T).ex
  obtain ⟨fd_Span, F_Span, B_Span⟩ := (ok_Span_init (P := P) (w := w) (base := base) T).ex
  have K_Span := T.mk_Span
  have G_Span := T.g_Span
  obtain ⟨fd, F⟩ := T.d_Span_add
  have nd := sc_Span_add.nd
  refine ⟨⟨fd, fn_ok F sc_Span_add (fun _ => rfl) (fun y cdv A outer s H G E hr => ⟨_, (b_if (mid := fun s1 : Unit => [.val rpSp y.1, .val rpSp y.2.1]) (t_not (t_val (e_cb (isiw (cv := .ref (He.ga K "Span")) (u := .ref (He.ga K "Span")) (b := true) (tyO ins_Sp T.oc) (.own _) T.k_oo) T.f_isinstance (a_cons (e_var 1 rfl) (a_cons (e_clsO T.g_Span) a_nil)))))
 b_never
 (b_nil () (.cons (.refl _) (.cons (.refl _) .nil)))
 (fun s1 => (b_if (mid := fun s2 : Unit => [.val rpSp y.1, .val rpSp y.2.1]) (t_not (t_pw (tw_and (t_own ins_Sp F_Span_bool B_Span_bool (hr.mono (by decide)) T.m_Span_bool.1 T.m_Span_bool.2 (e_var 0 rfl)) (tw_and1 (t_own ins_Sp F_Span_bool B_Span_bool (hr.mono (by decide)) T.m_Span_bool.1 T.m_Span_bool.2 (e_var 1 rfl))))))
 (b_ret (e_make K_Span F_Span (hr.mono (by decide)) G_Span B_Span (takes_of rfl rfl rfl rfl) (a_cons e_int (a_cons (e_un neg_I e_int) a_nil))))
 (b_nil () (.cons (.refl _) (.cons (.refl _) .nil)))
 (fun s2 => (b_ret (e_make K_Span F_Span (hr.mono (by decide)) G_Span B_Span (takes_of rfl rfl rfl rfl) (a_cons (e_op add_I (e_fld (fld_low T) (e_var 0 rfl)) (e_fld (fld_low T) (e_var 1 rfl))) (a_cons (e_op add_I (e_fld (fld_high T) (e_var 0 rfl)) (e_fld (fld_high T) (e_var 1 rfl))) a_nil))))))))⟩) ?_, F.bindsN fun _ _ _ _ _ _ us hl => match us, hl with | [_, _], _ => rfl⟩, F.kp⟩
  intro y post ep h
  dsimp only [endP, seqP]
  rw [if_neg (by simp)]
  unfold spAdd at h
  by_cases q : y.1.low ≤ y.1.high
  · rw [if_pos (decide_eq_true q)]
    by_cases r : y.2.1.low ≤ y.2.1.high
    · rw [if_pos ⟨q, r⟩] at h
      rw [if_neg (by simpa using r)]
      exact h
    · rw [if_neg (fun z => r z.2)] at h
      rw [if_pos (by simpa using r)]
      exact h
  · rw [if_neg (by simpa using q), if_pos (by simp)]
    rw [if_neg (fun z => q z.1)] at h
    exact h
theorem sc_Span_mul : FnScope ["self", "factor"] ["self", "factor"] (defScope s_Span_mul) := ⟨rfl, rfl, rfl, by decide +kernel, rfl, by decide +kernel, by decide +kernel⟩
theorem ok_Span_mul (T : Txt K mg) : OkM P w K mg base (He.fAd K ("Span", some "__mul__")) 3 ["self", "factor"] (spOf K rs0 (aCons rpSp (aCons rpI aNil)) rpSp (fun x post _ => (InW x.2.1) ∧ post (spMul x.1 x.2.1))) := by
  obtain ⟨fd_Span_bool, F_Span_bool, B_Span_bool⟩ := (ok_Span_bool (P := P) (w := w) (base := base) T).ex
  obtain ⟨fd_Span, F_Span, B_Span⟩ := (ok_Span_init (P := P) (w := w) (base := base) T).ex
  have K_Span := T.mk_Span
  have G_Span := T.g_Span
  obtain ⟨fd, F⟩ := T.d_Span_mul
  have nd := sc_Span_mul.nd
  refine ⟨⟨fd, fn_ok F sc_Span_mul (fun _ => rfl) (fun y cdv A outer s H G E hr => ⟨_, (b_if (mid := fun s1 : Unit => [.val rpSp y.1, .val rpI y.2.1]) (t_not (t_val (e_cb (isiw (cv := .ty "int") (u := .type "int") (b := true) tyI (.ty _) (L2.kit_ty (by decide +kernel))) T.f_isinstance (a_cons (e_var 1 rfl) (a_cons (e_clsB T.f_int) a_nil)))))
 b_never
 (b_nil () (.cons (.refl _) (.cons (.refl _) .nil)))
 (fun s1 => (b_if (mid := fun s2 : Unit => [.val rpSp y.1, .val rpI y.2.1]) (t_not (t_own ins_Sp F_Span_bool B_Span_bool (hr.mono (by decide)) T.m_Span_bool.1 T.m_Span_bool.2 (e_var 0 rfl)))
 (b_ret (e_make K_Span F_Span (hr.mono (by decide)) G_Span B_Span (takes_of rfl rfl rfl rfl) (a_cons e_int (a_cons (e_un neg_I e_int) a_nil))))
 (b_nil () (.cons (.refl _) (.cons (.refl _) .nil)))
 (fun s2 => (b_if (mid := fun s3 : Unit => [.val rpSp y.1, .val rpI y.2.1]) (t_cmp lt_I (e_var 1 rfl) e_int (nomark _))
 (b_ret (e_make K_Span F_Span (hr.mono (by decide)) G_Span B_Span (takes_of rfl rfl rfl rfl) (a_cons (e_op mul_I (e_fld (fld_high T) (e_var 0 rfl)) (e_var 1 rfl)) (a_cons (e_op mul_I (e_fld (fld_low T) (e_var 0 rfl)) (e_var 1 rfl)) a_nil))))
 (b_nil () (.cons (.refl _) (.cons (.refl _) .nil)))
 (fun s3 => (b_ret (e_make K_Span F_Span (hr.mono (by decide)) G_Span B_Span (takes_of rfl rfl rfl rfl) (a_cons (e_op mul_I (e_fld (fld_low T) (e_var 0 rfl)) (e_var 1 rfl)) (a_cons (e_op mul_I (e_fld (fld_high T) (e_var 0 rfl)) (e_var 1 rfl)) a_nil))))))))))⟩) ?_, F.bindsN fun _ _ _ _ _ _ us hl => match us, hl with | [_, _], _ => rfl⟩, F.kp⟩
  intro y post ep h
  dsimp only [endP, seqP]
  obtain ⟨⟨i1, i2⟩, h⟩ := h
  rw [if_neg (by simp)]
  unfold spMul at h
  have cm : ∀ a : Int, CMul a y.2.1 := fun a => .inr ⟨by omega, by omega⟩
  by_cases q : y.1.low ≤ y.1.high
  · rw [if_pos q] at h
    rw [if_neg (by simpa using q)]
    by_cases r : y.2.1 < 0
    · rw [if_pos r] at h
      rw [if_pos (decide_eq_true r)]
      exact ⟨cm _, cm _, h⟩
    · rw [if_neg r] at h
      rw [if_neg (by simpa using r)]
      exact ⟨cm _, cm _, h⟩
  · rw [if_neg q] at h
    rw [if_pos (by simpa using q)]
    exact h
theorem sc_Span_rmul : FnScope ["self", "factor"] ["self", "factor"] (defScope s_Span_rmul) := ⟨rfl, rfl, rfl, by decide +kernel, rfl, by decide +kernel, by decide +kernel⟩
theorem ok_Span_rmul (T : Txt K mg) : OkM P w K mg base (He.fAd K ("Span", some "__rmul__")) 4 ["self", "factor"] (spOf K rs0 (aCons rpSp (aCons rpI aNil)) rpSp (fun x post _ => (InW x.2.1) ∧ post (spMul x.1 x.2.1))) := by
  obtain ⟨fd_Span_mul, F_Span_mul, B_Span_mul⟩ := (ok_Span_mul (P := P) (w := w) (base := base) T).ex
  obtain ⟨fd, F⟩ := T.d_Span_rmul
  have nd := sc_Span_rmul.nd
  refine ⟨⟨fd, fn_ok F sc_Span_rmul (fun _ => rfl) (fun y cdv A outer s H G E hr => ⟨_, (b_ret (e_op (opw_ownI ins_Sp F_Span_mul B_Span_mul (hr.mono (by decide)) T.sf T.s_mul T.m_Span_mul.2 T.s_rmul (.inr ⟨_, rfl⟩) int_mul_at int_rmul_at T.i_sub) (e_var 0 rfl) (e_var 1 rfl)))⟩) ?_, F.bindsN fun _ _ _ _ _ _ us hl => match us, hl with | [_, _], _ => rfl⟩, F.kp⟩
  intro y post ep h
  dsimp only [endP, seqP]
  exact h
theorem sc_Span_and : FnScope ["self", "other"] ["self", "other"] (defScope s_Span_and) := ⟨rfl, rfl, rfl, by decide +kernel, rfl, by decide +kernel, by decide +kernel⟩
theorem ok_Span_and (T : Txt K mg) : OkM P w K mg base (He.fAd K ("Span", some "__and__")) 3 ["self", "other"] (spOf K rs0 (aCons rpSp (aCons rpSp aNil)) rpSp (fun x post _ => post (mkSp (max x.1.low x.2.1.low) (min x.1.high x.2.1.high)))) := by
  obtain ⟨fd_Span, F_Span, B_Span⟩ := (ok_Span_init (P := P) (w := w) (base := base) T).ex
  have K_Span := T.mk_Span
  have G_Span := T.g_Span
  obtain ⟨fd, F⟩ := T.d_Span_and
  have nd := sc_Span_and.nd
  refine ⟨⟨fd, fn_ok F sc_Span_and (fun _ => rfl) (fun y cdv A outer s H G E hr => ⟨_, (b_if (mid := fun s1 : Unit => [.val rpSp y.1, .val rpSp y.2.1]) (t_not (t_val (e_cb (isiw (cv := .ref (He.ga K "Span")) (u := .ref (He.ga K "Span")) (b := true) (tyO ins_Sp T.oc) (.own _) T.k_oo) T.f_isinstance (a_cons (e_var 1 rfl) (a_cons (e_clsO T.g_Span) a_nil)))))
 b_never
 (b_nil () (.cons (.refl _) (.cons (.refl _) .nil)))
 (fun s1 => (b_ret (e_make K_Span F_Span (hr.mono (by decide)) G_Span B_Span (takes_of rfl rfl rfl rfl) (a_cons (e_cb (max_I rfl) T.f_max (a_cons (e_fld (fld_low T) (e_var 0 rfl)) (a_cons (e_fld (fld_low T) (e_var 1 rfl)) a_nil))) (a_cons (e_cb (min_I rfl) T.f_min (a_cons (e_fld (fld_high T) (e_var 0 rfl)) (a_cons (e_fld (fld_high T) (e_var 1 rfl)) a_nil))) a_nil))))))⟩) ?_, F.bindsN fun _ _ _ _ _ _ us hl => match us, hl with | [_, _], _ => rfl⟩, F.kp⟩
  intro y post ep h
  dsimp only [endP, seqP]
  exact h
theorem sc_law_is : FnScope ["told", "ends", "size"] ["told", "ends"] (defScope s_law_is) := ⟨rfl, rfl, rfl, by decide +kernel, rfl, by decide +kernel, by decide +kernel⟩
theorem ok_law_is (T : Txt K mg) : Ok P w K mg base "_law_is" (He.fAd K ("_law_is", none)) 4 ["told", "ends"] (spOf K rs0 (aCons rpSp (aCons (rp2 (i := rpI) (j := rpI)) aNil)) rpB (fun x post _ => (Rep x.1 x.2.1 ∧ Okp x.2.1) ∧ post true)) := by
  obtain ⟨fd_law_is_whole, F_law_is_whole, B_law_is_whole⟩ := (ok_law_is_whole (P := P) (w := w) (base := base) T).ex
  have K_law_is_whole := (ok_law_is_whole (P := P) (w := w) (base := base) T).kp
  have G_law_is_whole := (ok_law_is_whole (P := P) (w := w) (base := base) T).gm
  obtain ⟨fd_Span_repr, F_Span_repr, B_Span_repr⟩ := (ok_Span_repr (P := P) (w := w) (base := base) T).ex
  obtain ⟨fd_Span_len, F_Span_len, B_Span_len⟩ := (ok_Span_len (P := P) (w := w) (base := base) T).ex
  obtain ⟨fd_Span_bool, F_Span_bool, B_Span_bool⟩ := (ok_Span_bool (P := P) (w := w) (base := base) T).ex
  obtain ⟨fd_law_says, F_law_says, B_law_says⟩ := (ok_law_says (P := P) (w := w) (base := base) T).ex
  have K_law_says := (ok_law_says (P := P) (w := w) (base := base) T).kp
  have G_law_says := (ok_law_says (P := P) (w := w) (base := base) T).gm
  obtain ⟨fd_Span, F_Span, B_Span⟩ := (ok_Span_init (P := P) (w := w) (base := base) T).ex
  have K_Span := T.mk_Span
  have G_Span := T.g_Span
  obtain ⟨fd_Span_eq, F_Span_eq, B_Span_eq⟩ := (ok_Span_eq (P := P) (w := w) (base := base) T).ex
  obtain ⟨fd, F⟩ := T.d_law_is
  have nd := sc_law_is.nd
  refine ⟨⟨fd, fn_ok F sc_law_is (fun _ => rfl) (fun y cdv A outer s H G E hr => ⟨_, (b_if (mid := fun s1 : Unit => [.val rpSp y.1, .val (rp2 (i := rpI) (j := rpI)) y.2.1, .no]) (t_not (t_val (e_cb (isiw (cv := .ref (He.ga K "Span")) (u := .ref (He.ga K "Span")) (b := true) (tyO ins_Sp T.oc) (.own _) T.k_oo) T.f_isinstance (a_cons (e_var 0 rfl) (a_cons (e_clsO T.g_Span) a_nil)))))
 (b_ret e_bool)
 (b_nil () (.cons (.refl _) (.cons (.refl _) (.cons (.refl _) .nil))))
 (fun s1 => (b_if (mid := fun s2 : Unit => [.val rpSp y.1, .val (rp2 (i := rpI) (j := rpI)) y.2.1, .no]) (t_pw (tw_or (t_not (t_val (e_call F_law_is_whole (hr.mono (by decide)) G_law_is_whole K_law_is_whole B_law_is_whole (takes_of rfl rfl rfl rfl) (a_cons (e_fld (fld_low T) (e_var 0 rfl)) (a_cons (e_ix ix_2a (e_var 1 rfl) e_int) a_nil))))) (tw_or1 (t_not (t_val (e_call F_law_is_whole (hr.mono (by decide)) G_law_is_whole K_law_is_whole B_law_is_whole (takes_of rfl rfl rfl rfl) (a_cons (e_fld (fld_high T) (e_var 0 rfl)) (a_cons (e_ix ix_2b (e_var 1 rfl) e_int) a_nil))))))))
 (b_ret e_bool)
 (b_nil () (.cons (.refl _) (.cons (.refl _) (.cons (.refl _) .nil))))
 (fun s2 => (b_if (mid := fun s3 : Unit => [.val rpSp y.1, .val (rp2 (i := rpI) (j := rpI)) y.2.1, .no]) (t_cmp ne_V (e_cb (reprw_own ins_Sp F_Span_repr B_Span_repr (hr.mono (by decide)) T.m_Span_repr.1 T.m_Span_repr.2) T.f_repr (a_cons (e_var 0 rfl) a_nil)) (e_op add_S (e_op add_S (e_op add_S (e_op add_S e_str (e_ct str_I T.f_str (a_cons (e_ix ix_2a (e_var 1 rfl) e_int) a_nil))) e_str) (e_ct str_I T.f_str (a_cons (e_ix ix_2b (e_var 1 rfl) e_int) a_nil))) e_str) (nomark _))
 (b_ret e_bool)
 (b_nil () (.cons (.refl _) (.cons (.refl _) (.cons (.refl _) .nil))))
 (fun s3 => (b_set 2 nd (e_op add_I (e_op sub_I (e_ix ix_2b (e_var 1 rfl) e_int) (e_ix ix_2a (e_var 1 rfl) e_int)) e_int)
 (fun size_4 => (b_if (mid := fun s5 : Unit => [.val rpSp y.1, .val (rp2 (i := rpI) (j := rpI)) y.2.1, .val rpI size_4]) (t_pw (tw_and (t_cmp le_I (e_var 2 rfl) e_int (nomark _)) (tw_and1 (t_cmp ne_V (e_cb (lenw_own ins_Sp F_Span_len B_Span_len (hr.mono (by decide)) T.m_Span_len.1 T.m_Span_len.2) T.f_len (a_cons (e_var 0 rfl) a_nil)) (e_var 2 rfl) (nomark _)))))
 (b_ret e_bool)
 (b_nil () (.cons (.refl _) (.cons (.refl _) (.cons (.refl _) .nil))))
 (fun s5 => (b_if (mid := fun s6 : Unit => [.val rpSp y.1, .val (rp2 (i := rpI) (j := rpI)) y.2.1, .val rpI size_4]) (t_pw (tw_or (t_cmp ne_V (e_ct (boolw_own ins_Sp F_Span_bool B_Span_bool (hr.mono (by decide)) T.m_Span_bool.1 T.m_Span_bool.2) T.f_bool (a_cons (e_var 0 rfl) a_nil)) (e_cmp gt_I (e_var 2 rfl) e_int (nomark _)) (nomark _)) (tw_or1 (t_cmp ne_V (e_notO ins_Sp F_Span_bool B_Span_bool (hr.mono (by decide)) T.m_Span_bool.1 T.m_Span_bool.2 (e_var 0 rfl)) (e_cmp eq_V (e_var 2 rfl) e_int (nomark _)) (nomark _)))))
 (b_ret e_bool)
 (b_nil () (.cons (.refl _) (.cons (.refl _) (.cons (.refl _) .nil))))
 (fun s6 => (b_if (mid := fun s7 : Unit => [.val rpSp y.1, .val (rp2 (i := rpI) (j := rpI)) y.2.1, .val rpI size_4]) (t_not (t_val (e_call F_law_says (hr.mono (by decide)) G_law_says K_law_says B_law_says (takes_of rfl rfl rfl rfl) (a_cons (e_cmp (cmpw_own (op := .Eq) (fun _ _ => rfl) ins_Sp ins_Sp F_Span_eq B_Span_eq (hr.mono (by decide)) T.s_eq T.m_Span_eq.2) (e_var 0 rfl) (e_make K_Span F_Span (hr.mono (by decide)) G_Span B_Span (takes_of rfl rfl rfl rfl) (a_cons (e_ix ix_2a (e_var 1 rfl) e_int) (a_cons (e_ix ix_2b (e_var 1 rfl) e_int) a_nil))) (nomark _)) (a_cons e_bool a_nil)))))
 (b_ret e_bool)
 (b_nil () (.cons (.refl _) (.cons (.refl _) (.cons (.refl _) .nil))))
 (fun s7 => (b_if (mid := fun s8 : Unit => [.val rpSp y.1, .val (rp2 (i := rpI) (j := rpI)) y.2.1, .val rpI size_4]) (t_pw (tw_and (t_cmp lt_I (e_ix ix_2b (e_var 1 rfl) e_int) e_int (nomark _)) (tw_and1 (t_not (t_val (e_call F_law_says (hr.mono (by decide)) G_law_says K_law_says B_law_says (takes_of rfl rfl rfl rfl) (a_cons (e_cmp (cmpw_own (op := .Eq) (fun _ _ => rfl) ins_Sp ins_Sp F_Span_eq B_Span_eq (hr.mono (by decide)) T.s_eq T.m_Span_eq.2) (e_var 0 rfl) (e_make K_Span F_Span (hr.mono (by decide)) G_Span B_Span (takes_of rfl rfl rfl rfl) (a_cons (e_ix ix_2a (e_var 1 rfl) e_int) (a_cons (e_op add_I (e_ix ix_2b (e_var 1 rfl) e_int) e_int) a_nil))) (nomark _)) (a_cons e_bool a_nil))))))))
 (b_ret e_bool)
 (b_nil () (.cons (.refl _) (.cons (.refl _) (.cons (.refl _) .nil))))
 (fun s8 => (b_if (mid := fun s9 : Unit => [.val rpSp y.1, .val (rp2 (i := rpI) (j := rpI)) y.2.1, .val rpI size_4]) (t_pw (tw_and (t_cmp gt_I (e_ix ix_2a (e_var 1 rfl) e_int) (e_un neg_I e_int) (nomark _)) (tw_and1 (t_not (t_val (e_call F_law_says (hr.mono (by decide)) G_law_says K_law_says B_law_says (takes_of rfl rfl rfl rfl) (a_cons (e_cmp (cmpw_own (op := .Eq) (fun _ _ => rfl) ins_Sp ins_Sp F_Span_eq B_Span_eq (hr.mono (by decide)) T.s_eq T.m_Span_eq.2) (e_make K_Span F_Span (hr.mono (by decide)) G_Span B_Span (takes_of rfl rfl rfl rfl) (a_cons (e_op sub_I (e_ix ix_2a (e_var 1 rfl) e_int) e_int) (a_cons (e_cb (max_I rfl) T.f_max (a_cons (e_ix ix_2b (e_var 1 rfl) e_int) (a_cons (e_ix ix_2a (e_var 1 rfl) e_int) a_nil))) a_nil))) (e_var 0 rfl) (nomark _)) (a_cons e_bool a_nil))))))))
 (b_ret e_bool)
 (b_nil () (.cons (.refl _) (.cons (.refl _) (.cons (.refl _) .nil))))
 (fun s9 => (b_ret (e_call F_law_says (hr.mono (by decide)) G_law_says K_law_says B_law_says (takes_of rfl rfl rfl rfl) (a_cons (e_cmp (cmpw_own (op := .Eq) (fun _ _ => rfl) ins_Sp ins_Sp F_Span_eq B_Span_eq (hr.mono (by decide)) T.s_eq T.m_Span_eq.2) (e_make K_Span F_Span (hr.mono (by decide)) G_Span B_Span (takes_of rfl rfl rfl rfl) (a_cons (e_ix ix_2a (e_var 1 rfl) e_int) (a_cons (e_ix ix_2b (e_var 1 rfl) e_int) a_nil))) (e_var 0 rfl) (nomark _)) (a_cons e_bool a_nil))))))))))))))))))))))⟩) ?_, F.bindsN fun _ _ _ _ _ _ us hl => match us, hl with | [_, _], _ => rfl⟩, F.kp, T.g_law_is⟩
  intro y post ep h
  dsimp only [endP, seqP]
  obtain ⟨⟨fl, fh⟩, ⟨a, b⟩, u⟩ := y
  obtain ⟨⟨⟨r1, r2⟩, ok⟩, hp⟩ := h
  dsimp only at r1 r2 ⊢
  subst r1 r2
  have m0 := ok_le ok
  have m1 := ok_up ok
  have m2 := ok_dn (a := fl) (b := fh)
  unfold Okp at ok
  dsimp only at ok
  obtain ⟨⟨i1, i2⟩, ok⟩ := ok
  have t1 := log_tx i1
  have t2 := log_tx i2
  obtain ⟨x1, x2, x3, x4⟩ := text_len i1 i2
  have tx : text fl fh = Str.ofString "Span(" ++ Str.ofString (toString fl) ++ Str.ofString ", " ++ Str.ofString (toString fh) ++ Str.ofString ")" := rfl
  rw [tx] at x4
  simp only [m0, m1, m2, tx]
  have b1 : InB fl ∧ InB fh := ⟨i1, i2⟩
  have j1 := i1
  have j2 := i2
  unfold InB at j1 j2
  have d3 : ¬ (fl - 1 = fl) := by omega
  have d4 : ¬ (fh = fh + 1) := by omega
  rcases ok with q | ⟨rfl, rfl⟩
  · have d1 : (0 : Int) < fh - fl + 1 := by omega
    have d2 : ¬ (fh - fl + 1 = 0) := by omega
    have d5 : max 0 (fh + 1 - fl) = fh - fl + 1 := by omega
    have d6 : fh - fl < 2 ^ 62 := by omega
    simp only [q, d1, d2, d3, d4, d5, d6, b1, t1, t2, x1, x2, x3, x4, hp, decide_true, decide_false, and_self, and_true, true_and, Bool.not_true, Bool.not_false, if_true, Bool.false_eq_true, if_false, Bool.true_eq_false, ite_self, and_false, false_and]
    repeat' first | exact hp | refine And.intro ?_ ?_ | split
    all_goals first | trivial | assumption | omega | (rw [← PySem.Str.length_append]; assumption)
  · simp only [t1, t2, x1, x2, x3, x4, b1, hp, decide_true, decide_false, and_self, and_true, true_and, Bool.not_true, Bool.not_false, if_true, Bool.false_eq_true, if_false, Bool.true_eq_false, ite_self, and_false, false_and]
    repeat' first | exact hp | refine And.intro ?_ ?_ | split
    all_goals first | trivial | assumption | omega | (rw [← PySem.Str.length_append]; assumption) | (exfalso; simp_all; done) | (simp_all; done)
theorem sc_law_members : FnScope ["ends", "number"] ["ends"] (defScope s_law_members) := ⟨rfl, rfl, rfl, by decide +kernel, rfl, by decide +kernel, by decide +kernel⟩
theorem ok_law_members (T : Txt K mg) : Ok P w K mg base "_law_members" (He.fAd K ("_law_members", none)) 1 ["ends"] (spOf K rs0 (aCons (rp2 (i := rpI) (j := rpI)) aNil) (rpL (i := rpI)) (fun x post _ => (InW x.1.1 ∧ InW x.1.2) ∧ post (members x.1))) := by
  obtain ⟨fd, F⟩ := T.d_law_members
  have nd := sc_law_members.nd
  refine ⟨⟨fd, fn_ok F sc_law_members (fun _ => rfl) (fun y cdv A outer s H G E hr => ⟨_, (b_if (mid := fun s1 : Unit => [.val (rp2 (i := rpI) (j := rpI)) y.1, .no]) (t_cmp gt_I (e_op sub_I (e_ix ix_2b (e_var 0 rfl) e_int) (e_ix ix_2a (e_var 0 rfl) e_int)) e_int (nomark _))
 (b_ret (e_list (iα := rpI) a_nil .nil))
 (b_nil () (.cons (.refl _) (.cons (.refl _) .nil)))
 (fun s1 => (b_ret (e_lc rfl nd (blkOk_by (own := [("number", 1)]) (by show blkC ["ends", "number"] (defScope s_law_members) _ _ = true; decide +kernel)) (by decide) rfl (i_rng2 (by rfl) T.f_range (a_cons (e_ix ix_2a (e_var 0 rfl) e_int) (a_cons (e_op add_I (e_ix ix_2b (e_var 0 rfl) e_int) e_int) a_nil))) (fun _ _ _ _ _ => (g_name 1 nd)) (fun _ _ _ _ _ c2 => ts_nil) (fun _ _ _ _ _ c2 => (e_var 1 rfl))))))⟩) ?_, F.bindsN fun _ _ _ _ _ _ us hl => match us, hl with | [_], _ => rfl⟩, F.kp, T.g_law_members⟩
  intro y post ep h
  dsimp only [endP, seqP]
  refine ⟨rfl, rfl, ?_⟩
  obtain ⟨⟨⟨a1, a2⟩, ⟨b1, b2⟩⟩, h⟩ := h
  unfold members at h
  by_cases q : 24 < y.1.2 - y.1.1
  · rw [if_pos (decide_eq_true q)]
    rw [if_pos q] at h
    exact ⟨Nat.zero_le _, h⟩
  · rw [if_neg (by simpa using q)]
    rw [if_neg q] at h
    refine ⟨rfl, rfl, ⟨by omega, by omega, by omega, by omega⟩, ?_, lcP_eq (fun _ => true) id _ (fun _ _ P ep h => h) (fun _ _ _ P ep h => h) ?_⟩
    · rw [rangeI_len, sizeLine_eq]
      omega
    · rw [List.filter_eq_self.mpr (fun _ _ => rfl), List.map_id]
      exact h
theorem sc_law_holds : FnScope ["told", "ends", "points", "number", "near"] ["told", "ends", "points"] (defScope s_law_holds) := ⟨rfl, rfl, rfl, by decide +kernel, rfl, by decide +kernel, by decide +kernel⟩
theorem ok_law_holds (T : Txt K mg) : Ok P w K mg base "_law_holds" (He.fAd K ("_law_holds", none)) 2 ["told", "ends", "points"] (spOf K rs0 (aCons rpSp (aCons (rp2 (i := rpI) (j := rpI)) (aCons (rpL (i := rpI)) aNil))) rpB (fun x post _ => Rep x.1 x.2.1 ∧ post true)) := by
  obtain ⟨fd_law_fit, F_law_fit, B_law_fit⟩ := (ok_law_fit (P := P) (w := w) (base := base) T).ex
  have K_law_fit := (ok_law_fit (P := P) (w := w) (base := base) T).kp
  have G_law_fit := (ok_law_fit (P := P) (w := w) (base := base) T).gm
  obtain ⟨fd_Span_contains, F_Span_contains, B_Span_contains⟩ := (ok_Span_contains (P := P) (w := w) (base := base) T).ex
  obtain ⟨fd, F⟩ := T.d_law_holds
  have nd := sc_law_holds.nd
  refine ⟨⟨fd, fn_ok F sc_law_holds (fun _ => rfl) (fun y cdv A outer s H G E hr => ⟨_, (b_for (lpS := fun s1 : Unit => [.val rpSp y.1, .val (rp2 (i := rpI) (j := rpI)) y.2.1, .val (rpL (i := rpI)) y.2.2.1, .no, .no]) () (.cons (.refl _) (.cons (.refl _) (.cons (.refl _) (.cons (.refl _) (.cons (.refl _) .nil))))) (passes_of rfl) rfl (i_lst (e_var 2 rfl)) (g_name 3 nd)
 (fun x2 s1 => (b_set 4 nd (e_call F_law_fit (hr.mono (by decide)) G_law_fit K_law_fit B_law_fit (takes_of rfl rfl rfl rfl) (a_cons (e_var 3 rfl) a_nil))
 (fun near_3 => (b_ifE (t_cmp ne_V (e_cmp (inw_own ins_Sp F_Span_contains B_Span_contains (hr.mono (by decide)) T.m_Span_contains.1 T.m_Span_contains.2) (e_var 4 rfl) (e_var 0 rfl) rfl) (e_chain le_I le_I (e_ix ix_2a (e_var 1 rfl) e_int) (e_var 4 rfl) (e_ix ix_2b (e_var 1 rfl) e_int)) (nomark _))
 (b_ret e_bool)
 (b_nil () (.cons (.refl _) (.cons (.refl _) (.cons (.refl _) (.cons (.no _) (.cons (.no _) .nil))))))))))
 (fun s1 => (b_ret e_bool)))⟩) ?_, F.bindsN fun _ _ _ _ _ _ us hl => match us, hl with | [_, _, _], _ => rfl⟩, F.kp, T.g_law_holds⟩
  intro y post ep h
  dsimp only [endP, seqP]
  obtain ⟨⟨r1, r2⟩, h⟩ := h
  intro _
  refine forP_ind (fun _ _ => True) (fun s _ => h) (fun x r s next hn _ => ⟨rfl, ?_⟩) _ _ trivial
  rw [r1, r2]
  by_cases q : y.2.1.1 ≤ fit x
  · rw [if_pos (decide_eq_true q)]
    refine ⟨rfl, ?_⟩
    rw [if_neg (by simp [q])]
    exact hn _ trivial
  · rw [if_neg (by simpa using q)]
    rw [if_neg (by simp [q])]
    exact hn _ trivial
theorem sc_law_sum : FnScope ["told", "one", "two", "found", "first", "second", "sums", "number"] ["told", "one", "two"] (defScope s_law_sum) := ⟨rfl, rfl, rfl, by decide +kernel, rfl, by decide +kernel, by decide +kernel⟩
theorem ok_law_sum (T : Txt K mg) : Ok P w K mg base "_law_sum" (He.fAd K ("_law_sum", none)) 3 ["told", "one", "two"] (spOf K rs0 (aCons rpSp (aCons (rp2 (i := rpI) (j := rpI)) (aCons (rp2 (i := rpI) (j := rpI)) aNil))) rpB (fun x post _ => (Okp x.2.1 ∧ Okp x.2.2.1 ∧ Rep x.1 (addp x.2.1 x.2.2.1)) ∧ post true)) := by
  obtain ⟨fd_law_members, F_law_members, B_law_members⟩ := (ok_law_members (P := P) (w := w) (base := base) T).ex
  have K_law_members := (ok_law_members (P := P) (w := w) (base := base) T).kp
  have G_law_members := (ok_law_members (P := P) (w := w) (base := base) T).gm
  obtain ⟨fd_law_fit, F_law_fit, B_law_fit⟩ := (ok_law_fit (P := P) (w := w) (base := base) T).ex
  have K_law_fit := (ok_law_fit (P := P) (w := w) (base := base) T).kp
  have G_law_fit := (ok_law_fit (P := P) (w := w) (base := base) T).gm
  obtain ⟨fd_Span_contains, F_Span_contains, B_Span_contains⟩ := (ok_Span_contains (P := P) (w := w) (base := base) T).ex
  obtain ⟨fd_Span_len, F_Span_len, B_Span_len⟩ := (ok_Span_len (P := P) (w := w) (base := base) T).ex
  obtain ⟨fd, F⟩ := T.d_law_sum
  have nd := sc_law_sum.nd
  refine ⟨⟨fd, fn_ok F sc_law_sum (fun _ => rfl) (fun y cdv A outer s H G E hr => ⟨_, (b_newD rpB 3 nd (b_for (lpS := fun s1 : (List (Key × Bool)) => [.val rpSp y.1, .val (rp2 (i := rpI) (j := rpI)) y.2.1, .val (rp2 (i := rpI) (j := rpI)) y.2.2.1, .md rpB s1, .no, .no, .no, .no]) [] (.cons (.refl _) (.cons (.refl _) (.cons (.refl _) (.cons (.refl _) (.cons (.refl _) (.cons (.refl _) (.cons (.refl _) (.cons (.refl _) .nil)))))))) (passes_of rfl) rfl (i_lst (e_call F_law_members (hr.mono (by decide)) G_law_members K_law_members B_law_members (takes_of rfl rfl rfl rfl) (a_cons (e_var 1 rfl) a_nil))) (g_name 4 nd)
 (fun x2 s1 => (b_for (lpS := fun s3 : (List (Key × Bool)) => [.val rpSp y.1, .val (rp2 (i := rpI) (j := rpI)) y.2.1, .val (rp2 (i := rpI) (j := rpI)) y.2.2.1, .md rpB s3, .val rpI x2, .no, .no, .no]) s1 (.cons (.refl _) (.cons (.refl _) (.cons (.refl _) (.cons (.refl _) (.cons (.refl _) (.cons (.refl _) (.cons (.refl _) (.cons (.refl _) .nil)))))))) (passes_of rfl) rfl (i_lst (e_call F_law_members (hr.mono (by decide)) G_law_members K_law_members B_law_members (takes_of rfl rfl rfl rfl) (a_cons (e_var 2 rfl) a_nil))) (g_name 5 nd)
 (fun x4 s3 => (b_putD 3 rfl hr.u1 e_bool (e_op add_I (e_var 4 rfl) (e_var 5 rfl)) (fun m5 k6 => (b_nil (putM s3 (KeyW.key (i := rpI) k6) m5) (.cons (.refl _) (.cons (.refl _) (.cons (.refl _) (.cons (.refl _) (.cons (.refl _) (.cons (.no _) (.cons (.refl _) (.cons (.refl _) .nil))))))))))))
 (fun s3 => (b_nil s3 (.cons (.refl _) (.cons (.refl _) (.cons (.refl _) (.cons (.refl _) (.cons (.no _) (.cons (.refl _) (.cons (.refl _) (.cons (.refl _) .nil))))))))))))
 (fun s1 => (b_set 6 nd (e_srtD 3 rfl rfl T.f_sorted)
 (fun sums_7 => (b_if (mid := fun s8 : Unit => [.val rpSp y.1, .val (rp2 (i := rpI) (j := rpI)) y.2.1, .val (rp2 (i := rpI) (j := rpI)) y.2.2.1, .md rpB s1, .no, .no, .val (rpL (i := rpI)) sums_7, .no]) (t_cmp (eq_D hr.units) (e_var 6 rfl) (e_list (iα := rpI) a_nil .nil) (nomark _))
 (b_ret e_bool)
 (b_nil () (.cons (.refl _) (.cons (.refl _) (.cons (.refl _) (.cons (.refl _) (.cons (.refl _) (.cons (.refl _) (.cons (.refl _) (.cons (.refl _) .nil)))))))))
 (fun s8 => (b_for (lpS := fun s9 : Unit => [.val rpSp y.1, .val (rp2 (i := rpI) (j := rpI)) y.2.1, .val (rp2 (i := rpI) (j := rpI)) y.2.2.1, .md rpB s1, .no, .no, .val (rpL (i := rpI)) sums_7, .no]) () (.cons (.refl _) (.cons (.refl _) (.cons (.refl _) (.cons (.refl _) (.cons (.refl _) (.cons (.refl _) (.cons (.refl _) (.cons (.refl _) .nil)))))))) (passes_of rfl) rfl (i_rng2 (by rfl) T.f_range (a_cons (e_op sub_I (e_ix ix_L (e_var 6 rfl) e_int) e_int) (a_cons (e_op add_I (e_ix ix_L (e_var 6 rfl) (e_op sub_I (e_cb len_L T.f_len (a_cons (e_var 6 rfl) a_nil)) e_int)) e_int) a_nil))) (g_name 7 nd)
 (fun x10 s9 => (b_ifE (t_pw (tw_and (t_cmp eq_V (e_var 7 rfl) (e_call F_law_fit (hr.mono (by decide)) G_law_fit K_law_fit B_law_fit (takes_of rfl rfl rfl rfl) (a_cons (e_var 7 rfl) a_nil)) (nomark _)) (tw_and1 (t_cmp ne_V (e_cmp (inw_own ins_Sp F_Span_contains B_Span_contains (hr.mono (by decide)) T.m_Span_contains.1 T.m_Span_contains.2) (e_var 7 rfl) (e_var 0 rfl) rfl) (e_inD 3 rfl hr.u1 (e_var 7 rfl)) (nomark _)))))
 (b_ret e_bool)
 (b_nil () (.cons (.refl _) (.cons (.refl _) (.cons (.refl _) (.cons (.refl _) (.cons (.refl _) (.cons (.refl _) (.cons (.refl _) (.cons (.no _) .nil)))))))))))
 (fun s9 => (b_ret (e_cmp eq_V (e_cb (lenw_own ins_Sp F_Span_len B_Span_len (hr.mono (by decide)) T.m_Span_len.1 T.m_Span_len.2) T.f_len (a_cons (e_var 0 rfl) a_nil)) (e_cb len_L T.f_len (a_cons (e_var 6 rfl) a_nil)) (nomark _))))))))))))⟩) ?_, F.bindsN fun _ _ _ _ _ _ us hl => match us, hl with | [_, _, _], _ => rfl⟩, F.kp, T.g_law_sum⟩
  intro y post ep h
  dsimp only [endP, seqP]
  obtain ⟨⟨fl, fh⟩, ⟨a, b⟩, ⟨c, d⟩, u⟩ := y
  obtain ⟨⟨o1, o2, r1, r2⟩, hp⟩ := h
  dsimp only at r1 r2 ⊢
  subst r1 r2
  have w1 : InW a ∧ InW b := ⟨inb_w o1.1.1, inb_w o1.1.2⟩
  have w2 : InW c ∧ InW d := ⟨inb_w o2.1.1, inb_w o2.1.2⟩
  refine ⟨w1, fun _ => ?_⟩
  refine forP_ind (fun xs s => Found (a, b) (c, d) xs s) (fun s hs => ?_) (fun x r s next hn hi => ?_) _ _ ⟨⟨[], rfl, List.nodup_nil, fun _ h => (nomatch h), fun x hx => .inl hx⟩, fun _ h => h⟩
  · obtain ⟨⟨ks, e, nd', h1, h2⟩, _⟩ := hs
    have h2 : ∀ x ∈ members (a, b), ∀ y ∈ members (c, d), x + y ∈ ks := fun x hx => (h2 x hx).resolve_left (fun z => nomatch z)
    have hl := small_keys nd' h1
    refine ⟨ks, e, by omega, fun ys hperm hsort => ?_⟩
    refine ⟨Nat.zero_le _, fun _ _ => trivial, fun _ _ => trivial, ?_⟩
    by_cases z : ys = []
    · rw [if_pos (decide_eq_true z)]
      exact hp
    · rw [if_neg (by simpa using z)]
      have ex : ∃ k, k ∈ ks := by
        cases ys with
        | nil => exact absurd rfl z
        | cons y r => exact ⟨y, hperm.mem_iff.mp List.mem_cons_self⟩
      obtain ⟨k0, hk0⟩ := ex
      obtain ⟨x0, hx0, y0, hy0, _⟩ := h1 k0 hk0
      obtain ⟨b1, s1⟩ := members_mem hx0
      obtain ⟨b2, s2⟩ := members_mem hy0
      dsimp only at b1 s1 b2 s2
      have hk : ∀ k, k ∈ ks ↔ a + c ≤ k ∧ k ≤ b + d := fun k => by
        constructor
        · intro hk
          obtain ⟨x, hx, y, hy, e⟩ := h1 k hk
          have g1 := (members_mem hx).1
          have g2 := (members_mem hy).1
          dsimp only at g1 g2
          omega
        · intro hk
          by_cases t : k - c ≤ b
          · have := h2 (k - c) (members_at (by omega) s1) c (members_at (by omega) s2)
            rwa [show k - c + c = k by omega] at this
          · have := h2 b (members_at (by omega) s1) (k - b) (members_at (by omega) s2)
            rwa [show b + (k - b) = k by omega] at this
      obtain ⟨t1, t2, t3⟩ := sorted_sums (lo := a + c) (hi := b + d) (by omega) nd' hk hperm hsort
      have j1 := o1.1
      have j2 := o2.1
      unfold InB at j1 j2
      dsimp only at j1 j2
      have ea : addp (a, b) (c, d) = (a + c, b + d) := by
        unfold addp
        rw [if_pos ⟨by dsimp only; omega, by dsimp only; omega⟩]
      rw [ea]
      refine ⟨_, t1, fun _ => ⟨_, t3, ⟨by omega, by omega, by omega, by omega⟩, ?_⟩⟩
      refine forP_ind (fun _ _ => True) (fun _ _ => ?_) (fun x r s' next hn _ => ?_) _ _ trivial
      · refine ⟨by dsimp only; omega, ⟨by dsimp only; omega, by dsimp only; omega⟩, fun _ => ?_⟩
        rw [decide_eq_true (by dsimp only; omega)]
        exact hp
      · have hv : (valM s (KeyW.key rpI x)).isSome = decide (a + c ≤ x ∧ x ≤ b + d) := by
          rw [show (KeyW.key rpI x : Key) = Sum.inl x from rfl, valM_key e]
          exact decide_eq_decide.mpr (hk x)
        by_cases t : x = fit x
        · rw [if_pos (decide_eq_true t), hv, if_neg (by simp)]
          exact hn _ trivial
        · rw [if_neg (by simpa using t), if_neg (by simp)]
          exact hn _ trivial
  · refine ⟨w2, fun _ => ?_⟩
    obtain ⟨⟨ks, e, nd', h1, h2⟩, hsub⟩ := hi
    have hx := hsub x List.mem_cons_self
    refine forP_ind (fun ys s => ∃ ks : List Int, s.map (·.1) = ks.map Sum.inl ∧ ks.Nodup ∧ (∀ k ∈ ks, ∃ x ∈ members (a, b), ∃ y ∈ members (c, d), k = x + y) ∧ (∀ x' ∈ members (a, b), x' ∈ x :: r ∨ ∀ y ∈ members (c, d), x' + y ∈ ks) ∧ (∀ y ∈ members (c, d), y ∈ ys ∨ x + y ∈ ks) ∧ (∀ y ∈ ys, y ∈ members (c, d))) (fun s' hs => ?_) (fun y r' s' next' hn' hi' => ?_) _ _ ⟨ks, e, nd', h1, h2, fun y hy => .inl hy, fun _ h => h⟩
    · obtain ⟨ks', e', nd2, g1, g2, g3, _⟩ := hs
      refine hn _ ⟨⟨ks', e', nd2, g1, fun x' hx' => ?_⟩, fun y hy => hsub y (List.mem_cons_of_mem _ hy)⟩
      rcases g2 x' hx' with t | t
      · rcases List.mem_cons.mp t with rfl | t
        · exact .inr fun y hy => (g3 y hy).resolve_left (fun z => nomatch z)
        · exact .inl t
      · exact .inr t
    · obtain ⟨ks', e', nd2, g1, g2, g3, g4⟩ := hi'
      have hy := g4 y List.mem_cons_self
      have hl := small_keys nd2 g1
      refine ⟨?_, hn' _ ⟨_, putM_keys e', ?_, fun k hk => ?_, fun x' hx' => ?_, fun y' hy' => ?_, fun y' hy' => g4 y' (List.mem_cons_of_mem _ hy')⟩⟩
      · have := congrArg List.length e'
        rw [List.length_map, List.length_map] at this
        rw [this, sizeLine_eq]
        omega
      · split
        · exact nd2
        · rename_i q
          exact List.nodup_append.mpr ⟨nd2, by simp, fun u hu v hv => by
            rw [List.mem_singleton.mp hv]
            exact fun z => q (z ▸ hu)⟩
      · split at hk
        · exact g1 k hk
        · rcases List.mem_append.mp hk with t | t
          · exact g1 k t
          · exact ⟨x, hx, y, hy, List.mem_singleton.mp t⟩
      · rcases g2 x' hx' with t | t
        · exact .inl t
        · refine .inr fun y' hy' => ?_
          split
          · exact t y' hy'
          · exact List.mem_append_left _ (t y' hy')
      · rcases g3 y' hy' with t | t
        · rcases List.mem_cons.mp t with rfl | t
          · refine .inr ?_
            split
            · assumption
            · exact List.mem_append_right _ (List.mem_singleton.mpr rfl)
          · exact .inl t
        · refine .inr ?_
          split
          · exact t
          · exact List.mem_append_left _ t
theorem sc_law_adds : FnScope ["first", "second", "one", "two", "due"] ["first", "second", "one", "two"] (defScope s_law_adds) := ⟨rfl, rfl, rfl, by decide +kernel, rfl, by decide +kernel, by decide +kernel⟩
theorem ok_law_adds (T : Txt K mg) : Ok P w K mg base "_law_adds" (He.fAd K ("_law_adds", none)) 5 ["first", "second", "one", "two"] (spOf K rs0 (aCons rpSp (aCons rpSp (aCons (rp2 (i := rpI) (j := rpI)) (aCons (rp2 (i := rpI) (j := rpI)) aNil)))) rpB (fun x post _ => (Okp x.2.2.1 ∧ Okp x.2.2.2.1 ∧ Rep x.1 x.2.2.1 ∧ Rep x.2.1 x.2.2.2.1) ∧ post true)) := by
  obtain ⟨fd_law_fits, F_law_fits, B_law_fits⟩ := (ok_law_fits (P := P) (w := w) (base := base) T).ex
  have K_law_fits := (ok_law_fits (P := P) (w := w) (base := base) T).kp
  have G_law_fits := (ok_law_fits (P := P) (w := w) (base := base) T).gm
  obtain ⟨fd_law_is, F_law_is, B_law_is⟩ := (ok_law_is (P := P) (w := w) (base := base) T).ex
  have K_law_is := (ok_law_is (P := P) (w := w) (base := base) T).kp
  have G_law_is := (ok_law_is (P := P) (w := w) (base := base) T).gm
  obtain ⟨fd_Span_add, F_Span_add, B_Span_add⟩ := (ok_Span_add (P := P) (w := w) (base := base) T).ex
  obtain ⟨fd_law_sum, F_law_sum, B_law_sum⟩ := (ok_law_sum (P := P) (w := w) (base := base) T).ex
  have K_law_sum := (ok_law_sum (P := P) (w := w) (base := base) T).kp
  have G_law_sum := (ok_law_sum (P := P) (w := w) (base := base) T).gm
  obtain ⟨fd, F⟩ := T.d_law_adds
  have nd := sc_law_adds.nd
  refine ⟨⟨fd, fn_ok F sc_law_adds (fun _ => rfl) (fun y cdv A outer s H G E hr => ⟨_, (b_set 4 nd (e_tup2 (a_cons e_int (a_cons (e_un neg_I e_int) a_nil)))
 (fun due_1 => (b_if (mid := fun s2 : (Int × Int) => [.val rpSp y.1, .val rpSp y.2.1, .val (rp2 (i := rpI) (j := rpI)) y.2.2.1, .val (rp2 (i := rpI) (j := rpI)) y.2.2.2.1, .val (rp2 (i := rpI) (j := rpI)) s2]) (t_pw (tw_and (t_cmp le_I (e_ix ix_2a (e_var 2 rfl) e_int) (e_ix ix_2b (e_var 2 rfl) e_int) (nomark _)) (tw_and1 (t_cmp le_I (e_ix ix_2a (e_var 3 rfl) e_int) (e_ix ix_2b (e_var 3 rfl) e_int) (nomark _)))))
 (b_set 4 nd (e_tup2 (a_cons (e_op add_I (e_ix ix_2a (e_var 2 rfl) e_int) (e_ix ix_2a (e_var 3 rfl) e_int)) (a_cons (e_op add_I (e_ix ix_2b (e_var 2 rfl) e_int) (e_ix ix_2b (e_var 3 rfl) e_int)) a_nil)))
 (fun due_3 => (b_nil due_3 (.cons (.refl _) (.cons (.refl _) (.cons (.refl _) (.cons (.refl _) (.cons (.refl _) .nil))))))))
 (b_nil due_1 (.cons (.refl _) (.cons (.refl _) (.cons (.refl _) (.cons (.refl _) (.cons (.refl _) .nil))))))
 (fun s2 => (b_if (mid := fun s4 : Unit => [.val rpSp y.1, .val rpSp y.2.1, .val (rp2 (i := rpI) (j := rpI)) y.2.2.1, .val (rp2 (i := rpI) (j := rpI)) y.2.2.2.1, .val (rp2 (i := rpI) (j := rpI)) s2]) (t_not (t_val (e_call F_law_fits (hr.mono (by decide)) G_law_fits K_law_fits B_law_fits (takes_of rfl rfl rfl rfl) (a_cons (e_var 4 rfl) a_nil))))
 (b_ret e_bool)
 (b_nil () (.cons (.refl _) (.cons (.refl _) (.cons (.refl _) (.cons (.refl _) (.cons (.refl _) .nil))))))
 (fun s4 => (b_if (mid := fun s5 : Unit => [.val rpSp y.1, .val rpSp y.2.1, .val (rp2 (i := rpI) (j := rpI)) y.2.2.1, .val (rp2 (i := rpI) (j := rpI)) y.2.2.2.1, .val (rp2 (i := rpI) (j := rpI)) s2]) (t_pw (tw_or (t_not (t_val (e_call F_law_is (hr.mono (by decide)) G_law_is K_law_is B_law_is (takes_of rfl rfl rfl rfl) (a_cons (e_op (opw_own ins_Sp ins_Sp F_Span_add B_Span_add (hr.mono (by decide)) T.sf T.s_add T.m_Span_add.2) (e_var 0 rfl) (e_var 1 rfl)) (a_cons (e_var 4 rfl) a_nil))))) (tw_or1 (t_not (t_val (e_call F_law_is (hr.mono (by decide)) G_law_is K_law_is B_law_is (takes_of rfl rfl rfl rfl) (a_cons (e_op (opw_own ins_Sp ins_Sp F_Span_add B_Span_add (hr.mono (by decide)) T.sf T.s_add T.m_Span_add.2) (e_var 1 rfl) (e_var 0 rfl)) (a_cons (e_var 4 rfl) a_nil))))))))
 (b_ret e_bool)
 (b_nil () (.cons (.refl _) (.cons (.refl _) (.cons (.refl _) (.cons (.refl _) (.cons (.refl _) .nil))))))
 (fun s5 => (b_ret (e_call F_law_sum (hr.mono (by decide)) G_law_sum K_law_sum B_law_sum (takes_of rfl rfl rfl rfl) (a_cons (e_op (opw_own ins_Sp ins_Sp F_Span_add B_Span_add (hr.mono (by decide)) T.sf T.s_add T.m_Span_add.2) (e_var 0 rfl) (e_var 1 rfl)) (a_cons (e_var 2 rfl) (a_cons (e_var 3 rfl) a_nil)))))))))))))⟩) ?_, F.bindsN fun _ _ _ _ _ _ us hl => match us, hl with | [_, _, _, _], _ => rfl⟩, F.kp, T.g_law_adds⟩
  intro y post ep h
  dsimp only [endP, seqP]
  obtain ⟨⟨fl, fh⟩, ⟨sl, sh⟩, ⟨a, b⟩, ⟨c, d⟩, u⟩ := y
  obtain ⟨⟨o1, o2, ⟨r1, r2⟩, ⟨r3, r4⟩⟩, hp⟩ := h
  dsimp only at r1 r2 r3 r4 ⊢
  subst r1 r2 r3 r4
  have fin : ∀ (due : Int × Int) (X : Prop), due = addp (fl, fh) (sl, sh) → (if (!fits due) = true then post true else (Rep (spAdd ⟨fl, fh⟩ ⟨sl, sh⟩) due ∧ Okp due) ∧ if (!true) = true then X else (Rep (spAdd ⟨sl, sh⟩ ⟨fl, fh⟩) due ∧ Okp due) ∧ if (!true) = true then post false else (Okp (fl, fh) ∧ Okp (sl, sh) ∧ Rep (spAdd ⟨fl, fh⟩ ⟨sl, sh⟩) (addp (fl, fh) (sl, sh))) ∧ post true) := by
    intro due X e
    by_cases q : InB due.1 ∧ InB due.2
    · rw [if_neg (by unfold fits; simp [q])]
      have ok : Okp due := ⟨q, by
        rw [e]
        unfold addp
        dsimp only
        split
        · dsimp only
          omega
        · exact .inr ⟨rfl, rfl⟩⟩
      refine ⟨⟨by rw [e]; exact add_rep, ok⟩, ?_⟩
      rw [if_neg (by simp)]
      refine ⟨⟨by rw [e, addp_comm]; exact add_rep, ok⟩, ?_⟩
      rw [if_neg (by simp)]
      exact ⟨⟨o1, o2, add_rep⟩, hp⟩
    · rw [if_pos (by unfold fits; simp only [Bool.not_eq_true', decide_eq_false_iff_not]; exact q)]
      exact hp
  refine ⟨rfl, rfl, ?_⟩
  by_cases q1 : fl ≤ fh
  · rw [if_pos (decide_eq_true q1)]
    refine ⟨rfl, rfl, ?_⟩
    by_cases q2 : sl ≤ sh
    · rw [if_pos (decide_eq_true q2)]
      refine ⟨rfl, rfl, rfl, rfl, fin _ _ ?_⟩
      unfold addp
      rw [if_pos ⟨q1, q2⟩]
    · rw [if_neg (by simpa using q2)]
      refine fin _ _ ?_
      unfold addp
      rw [if_neg (fun z => q2 z.2)]
  · rw [if_neg (by simpa using q1), if_neg (by simp)]
    refine fin _ _ ?_
    unfold addp
    rw [if_neg (fun z => q1 z.1)]
theorem sc_law_grows : FnScope ["span", "ends", "factor", "due", "products", "told", "number"] ["span", "ends", "factor"] (defScope s_law_grows) := ⟨rfl, rfl, rfl, by decide +kernel, rfl, by decide +kernel, by decide +kernel⟩
theorem ok_law_grows (T : Txt K mg) : Ok P w K mg base "_law_grows" (He.fAd K ("_law_grows", none)) 5 ["span", "ends", "factor"] (spOf K rs0 (aCons rpSp (aCons (rp2 (i := rpI) (j := rpI)) (aCons rpI aNil))) rpB (fun x post _ => (Rep x.1 x.2.1 ∧ Okp x.2.1 ∧ InB x.2.2.1 ∧ InB (x.2.1.1 * x.2.2.1) ∧ InB (x.2.1.2 * x.2.2.1)) ∧ post true)) := by
  obtain ⟨fd_law_is, F_law_is, B_law_is⟩ := (ok_law_is (P := P) (w := w) (base := base) T).ex
  have K_law_is := (ok_law_is (P := P) (w := w) (base := base) T).kp
  have G_law_is := (ok_law_is (P := P) (w := w) (base := base) T).gm
  obtain ⟨fd_Span_mul, F_Span_mul, B_Span_mul⟩ := (ok_Span_mul (P := P) (w := w) (base := base) T).ex
  obtain ⟨fd_Span_rmul, F_Span_rmul, B_Span_rmul⟩ := (ok_Span_rmul (P := P) (w := w) (base := base) T).ex
  obtain ⟨fd_law_members, F_law_members, B_law_members⟩ := (ok_law_members (P := P) (w := w) (base := base) T).ex
  have K_law_members := (ok_law_members (P := P) (w := w) (base := base) T).kp
  have G_law_members := (ok_law_members (P := P) (w := w) (base := base) T).gm
  obtain ⟨fd_Span_contains, F_Span_contains, B_Span_contains⟩ := (ok_Span_contains (P := P) (w := w) (base := base) T).ex
  obtain ⟨fd, F⟩ := T.d_law_grows
  have nd := sc_law_grows.nd
  refine ⟨⟨fd, fn_ok F sc_law_grows (fun _ => rfl) (fun y cdv A outer s H G E hr => ⟨_, (b_set 3 nd (e_tup2 (a_cons e_int (a_cons (e_un neg_I e_int) a_nil)))
 (fun due_1 => (b_if (mid := fun s2 : (Int × Int) => [.val rpSp y.1, .val (rp2 (i := rpI) (j := rpI)) y.2.1, .val rpI y.2.2.1, .val (rp2 (i := rpI) (j := rpI)) s2, .no, .no, .no]) (t_cmp le_I (e_ix ix_2a (e_var 1 rfl) e_int) (e_ix ix_2b (e_var 1 rfl) e_int) (nomark _))
 (b_set 3 nd (e_tup2 (a_cons (e_cb (min_I rfl) T.f_min (a_cons (e_op mul_I (e_ix ix_2a (e_var 1 rfl) e_int) (e_var 2 rfl)) (a_cons (e_op mul_I (e_ix ix_2b (e_var 1 rfl) e_int) (e_var 2 rfl)) a_nil))) (a_cons (e_cb (max_I rfl) T.f_max (a_cons (e_op mul_I (e_ix ix_2a (e_var 1 rfl) e_int) (e_var 2 rfl)) (a_cons (e_op mul_I (e_ix ix_2b (e_var 1 rfl) e_int) (e_var 2 rfl)) a_nil))) a_nil)))
 (fun due_3 => (b_nil due_3 (.cons (.refl _) (.cons (.refl _) (.cons (.refl _) (.cons (.refl _) (.cons (.refl _) (.cons (.refl _) (.cons (.refl _) .nil))))))))))
 (b_nil due_1 (.cons (.refl _) (.cons (.refl _) (.cons (.refl _) (.cons (.refl _) (.cons (.refl _) (.cons (.refl _) (.cons (.refl _) .nil))))))))
 (fun s2 => (b_if (mid := fun s4 : Unit => [.val rpSp y.1, .val (rp2 (i := rpI) (j := rpI)) y.2.1, .val rpI y.2.2.1, .val (rp2 (i := rpI) (j := rpI)) s2, .no, .no, .no]) (t_pw (tw_or (t_not (t_val (e_call F_law_is (hr.mono (by decide)) G_law_is K_law_is B_law_is (takes_of rfl rfl rfl rfl) (a_cons (e_op (opw_ownI ins_Sp F_Span_mul B_Span_mul (hr.mono (by decide)) T.sf T.s_mul T.m_Span_mul.2 T.s_rmul (.inr ⟨_, rfl⟩) int_mul_at int_rmul_at T.i_sub) (e_var 0 rfl) (e_var 2 rfl)) (a_cons (e_var 3 rfl) a_nil))))) (tw_or1 (t_not (t_val (e_call F_law_is (hr.mono (by decide)) G_law_is K_law_is B_law_is (takes_of rfl rfl rfl rfl) (a_cons (e_op (rmulw_own ins_Sp F_Span_rmul B_Span_rmul (hr.mono (by decide)) T.sf T.s_mul T.s_rmul T.m_Span_rmul.2 T.o_sub) (e_var 2 rfl) (e_var 0 rfl)) (a_cons (e_var 3 rfl) a_nil))))))))
 (b_ret e_bool)
 (b_nil () (.cons (.refl _) (.cons (.refl _) (.cons (.refl _) (.cons (.refl _) (.cons (.refl _) (.cons (.refl _) (.cons (.refl _) .nil))))))))
 (fun s4 => (b_setLc 4 rfl nd (blkOk_by (own := [("number", 6)]) (by show blkC ["span", "ends", "factor", "due", "products", "told", "number"] (defScope s_law_grows) _ _ = true; decide +kernel)) (by decide) rfl (i_lst (e_call F_law_members (hr.mono (by decide)) G_law_members K_law_members B_law_members (takes_of rfl rfl rfl rfl) (a_cons (e_var 1 rfl) a_nil))) (fun _ _ _ _ _ => (g_name 6 nd)) (fun _ _ _ _ _ c6 => ts_nil) (fun _ _ _ _ _ c6 => (JE.conv (e_op mul_I (e_var 6 rfl) (e_var 2 rfl)) (by first | rfl | (dsimp only [Cx.blk] <;> rfl)) (by first | rfl | (dsimp only [Cx.blk] <;> rfl))))
 (fun products_5 => (b_if (mid := fun s7 : Unit => [.val rpSp y.1, .val (rp2 (i := rpI) (j := rpI)) y.2.1, .val rpI y.2.2.1, .val (rp2 (i := rpI) (j := rpI)) s2, .val (rpL (i := rpI)) products_5, .no, .no]) (t_cmp (eq_D hr.units) (e_var 4 rfl) (e_list (iα := rpI) a_nil .nil) (nomark _))
 (b_ret e_bool)
 (b_nil () (.cons (.refl _) (.cons (.refl _) (.cons (.refl _) (.cons (.refl _) (.cons (.refl _) (.cons (.refl _) (.cons (.refl _) .nil))))))))
 (fun s7 => (b_if (mid := fun s8 : Unit => [.val rpSp y.1, .val (rp2 (i := rpI) (j := rpI)) y.2.1, .val rpI y.2.2.1, .val (rp2 (i := rpI) (j := rpI)) s2, .val (rpL (i := rpI)) products_5, .no, .no]) (t_not (t_val (e_call F_law_is (hr.mono (by decide)) G_law_is K_law_is B_law_is (takes_of rfl rfl rfl rfl) (a_cons (e_op (opw_ownI ins_Sp F_Span_mul B_Span_mul (hr.mono (by decide)) T.sf T.s_mul T.m_Span_mul.2 T.s_rmul (.inr ⟨_, rfl⟩) int_mul_at int_rmul_at T.i_sub) (e_var 0 rfl) (e_var 2 rfl)) (a_cons (e_tup2 (a_cons (e_cb (min_L rfl) T.f_min (a_cons (e_var 4 rfl) a_nil)) (a_cons (e_cb (max_L rfl) T.f_max (a_cons (e_var 4 rfl) a_nil)) a_nil))) a_nil)))))
 (b_ret e_bool)
 (b_nil () (.cons (.refl _) (.cons (.refl _) (.cons (.refl _) (.cons (.refl _) (.cons (.refl _) (.cons (.refl _) (.cons (.refl _) .nil))))))))
 (fun s8 => (b_set 5 nd (e_op (rmulw_own ins_Sp F_Span_rmul B_Span_rmul (hr.mono (by decide)) T.sf T.s_mul T.s_rmul T.m_Span_rmul.2 T.o_sub) (e_var 2 rfl) (e_var 0 rfl))
 (fun told_9 => (b_ret (e_cmp eq_V (e_cb len_L T.f_len (a_cons (e_lc rfl nd (blkOk_by (own := [("number", 6)]) (by show blkC ["span", "ends", "factor", "due", "products", "told", "number"] (defScope s_law_grows) _ _ = true; decide +kernel)) (by decide) rfl (i_lst (e_var 4 rfl)) (fun _ _ _ _ _ => (g_name 6 nd)) (fun _ _ _ _ _ c11 => (JTs.conv (ts_one (t_cmp (ninw_own ins_Sp F_Span_contains B_Span_contains (hr.mono (by decide)) T.m_Span_contains.1 T.m_Span_contains.2) (e_var 6 rfl) (e_var 5 rfl) rfl)) (by first | rfl | (dsimp only [Cx.blk] <;> rfl)) (by first | rfl | (dsimp only [Cx.blk] <;> rfl)))) (fun _ _ _ _ _ c11 => (e_var 6 rfl))) a_nil)) e_int (nomark _)))))))))))))))))⟩) ?_, F.bindsN fun _ _ _ _ _ _ us hl => match us, hl with | [_, _, _], _ => rfl⟩, F.kp, T.g_law_grows⟩
  intro y post ep h
  dsimp only [endP, seqP]
  obtain ⟨⟨fl, fh⟩, ⟨a, b⟩, f, u⟩ := y
  obtain ⟨⟨⟨r1, r2⟩, ok, hf, k1, k2⟩, hp⟩ := h
  dsimp only at r1 r2 ok hf k1 k2 ⊢
  subst r1 r2
  have hw := inb_w hf
  have cm : ∀ n : Int, CMul n f := fun n => .inr ⟨by unfold InB at hf; omega, by unfold InB at hf; omega⟩
  have inw : InW fl ∧ InW fh := ⟨inb_w ok.1.1, inb_w ok.1.2⟩
  refine ⟨rfl, rfl, ?_⟩
  by_cases q : fl ≤ fh
  · have rp := mul_rep (f := f) q
    have okp : Okp (min (fl * f) (fh * f), max (fl * f) (fh * f)) := by
      unfold Okp InB at *
      dsimp only at *
      omega
    rw [if_pos (decide_eq_true q)]
    refine ⟨rfl, cm _, rfl, cm _, rfl, cm _, rfl, cm _, hw, ⟨rp, okp⟩, ?_⟩
    rw [if_neg (by simp)]
    refine ⟨hw, ⟨rp, okp⟩, ?_⟩
    rw [if_neg (by simp)]
    refine ⟨inw, fun hl => ⟨hl, lcP_eq (fun _ => true) (fun x => x * f) _ (fun _ _ P ep h => h) (fun _ _ _ P ep h => ⟨cm _, h⟩) ?_⟩⟩
    rw [List.filter_eq_self.mpr (fun _ _ => rfl)]
    refine ⟨Nat.zero_le _, fun _ _ => trivial, fun _ _ => trivial, ?_⟩
    by_cases z : (members (fl, fh)).map (fun x => x * f) = []
    · rw [if_pos (decide_eq_true z)]
      exact hp
    · rw [if_neg (by simpa using z)]
      have pos : 0 < ((members (fl, fh)).map (fun x => x * f)).length := List.length_pos_iff.mpr z
      have small : fh - fl ≤ 24 := by
        cases e : members (fl, fh) with
        | nil => exact absurd (by rw [e]; rfl) z
        | cons x r => exact (members_mem (show x ∈ members (fl, fh) by rw [e]; exact List.mem_cons_self)).2
      have ma : fl * f ∈ (members (fl, fh)).map (fun x => x * f) := List.mem_map.mpr ⟨fl, members_at ⟨Int.le_refl _, q⟩ small, rfl⟩
      have mb : fh * f ∈ (members (fl, fh)).map (fun x => x * f) := List.mem_map.mpr ⟨fh, members_at ⟨q, Int.le_refl _⟩ small, rfl⟩
      have all : ∀ m ∈ (members (fl, fh)).map (fun x => x * f), min (fl * f) (fh * f) ≤ m ∧ m ≤ max (fl * f) (fh * f) := fun m hm => by
        obtain ⟨x, hx, rfl⟩ := List.mem_map.mp hm
        exact mul_mem (members_mem hx).1
      refine ⟨hw, pos, fun m1 hm1 hy1 => ⟨pos, fun m2 hm2 hy2 => ?_⟩⟩
      have e1 : m1 = min (fl * f) (fh * f) := by
        have := hy1 _ ma
        have := hy1 _ mb
        have := all _ hm1
        omega
      have e2 : m2 = max (fl * f) (fh * f) := by
        have := hy2 _ ma
        have := hy2 _ mb
        have := all _ hm2
        omega
      rw [e1, e2]
      refine ⟨⟨rp, okp⟩, ?_⟩
      rw [if_neg (by simp)]
      refine ⟨hw, fun hl => ⟨hl, lcP_eq (fun x => !decide ((spMul ⟨fl, fh⟩ f).low ≤ x ∧ x ≤ (spMul ⟨fl, fh⟩ f).high)) id _ (fun _ _ P ep h => h) (fun _ _ _ P ep h => h) ?_⟩⟩
      rw [List.filter_eq_nil_iff.mpr (fun m hm => by
        rw [rp.1, rp.2]
        simp only [Bool.not_eq_true', decide_eq_false_iff_not, Decidable.not_not]
        exact all m hm)]
      intro _
      exact hp
  · have e : members (fl, fh) = [] := by
      cases e : members (fl, fh) with
      | nil => rfl
      | cons x r =>
        have := (members_mem (show x ∈ members (fl, fh) by rw [e]; exact List.mem_cons_self)).1
        dsimp only at this
        omega
    have rp : Rep (spMul ⟨fl, fh⟩ f) (0, -1) := by
      unfold spMul
      rw [if_neg q, mkSp_gt (by omega)]
      exact ⟨rfl, rfl⟩
    have okp : Okp (0, -1) := by
      unfold Okp InB
      dsimp only
      omega
    rw [if_neg (by simpa using q)]
    refine ⟨hw, ⟨rp, okp⟩, ?_⟩
    rw [if_neg (by simp)]
    refine ⟨hw, ⟨rp, okp⟩, ?_⟩
    rw [if_neg (by simp)]
    refine ⟨inw, fun hl => ⟨hl, ?_⟩⟩
    rw [e]
    refine ⟨Nat.zero_le _, fun _ _ => trivial, fun _ _ => trivial, ?_⟩
    rw [if_pos (by simp)]
    exact hp
theorem sc_law_meets : FnScope ["first", "second", "one", "two", "due", "both", "number"] ["first", "second", "one", "two"] (defScope s_law_meets) := ⟨rfl, rfl, rfl, by decide +kernel, rfl, by decide +kernel, by decide +kernel⟩
theorem ok_law_meets (T : Txt K mg) : Ok P w K mg base "_law_meets" (He.fAd K ("_law_meets", none)) 5 ["first", "second", "one", "two"] (spOf K rs0 (aCons rpSp (aCons rpSp (aCons (rp2 (i := rpI) (j := rpI)) (aCons (rp2 (i := rpI) (j := rpI)) aNil)))) rpB (fun x post _ => (Okp x.2.2.1 ∧ Okp x.2.2.2.1 ∧ Rep x.1 x.2.2.1 ∧ Rep x.2.1 x.2.2.2.1) ∧ post true)) := by
  obtain ⟨fd_law_ends, F_law_ends, B_law_ends⟩ := (ok_law_ends (P := P) (w := w) (base := base) T).ex
  have K_law_ends := (ok_law_ends (P := P) (w := w) (base := base) T).kp
  have G_law_ends := (ok_law_ends (P := P) (w := w) (base := base) T).gm
  obtain ⟨fd_law_is, F_law_is, B_law_is⟩ := (ok_law_is (P := P) (w := w) (base := base) T).ex
  have K_law_is := (ok_law_is (P := P) (w := w) (base := base) T).kp
  have G_law_is := (ok_law_is (P := P) (w := w) (base := base) T).gm
  obtain ⟨fd_Span_and, F_Span_and, B_Span_and⟩ := (ok_Span_and (P := P) (w := w) (base := base) T).ex
  obtain ⟨fd_law_members, F_law_members, B_law_members⟩ := (ok_law_members (P := P) (w := w) (base := base) T).ex
  have K_law_members := (ok_law_members (P := P) (w := w) (base := base) T).kp
  have G_law_members := (ok_law_members (P := P) (w := w) (base := base) T).gm
  obtain ⟨fd_Span_contains, F_Span_contains, B_Span_contains⟩ := (ok_Span_contains (P := P) (w := w) (base := base) T).ex
  obtain ⟨fd, F⟩ := T.d_law_meets
  have nd := sc_law_meets.nd
  refine ⟨⟨fd, fn_ok F sc_law_meets (fun _ => rfl) (fun y cdv A outer s H G E hr => ⟨_, (b_set 4 nd (e_tup2 (a_cons e_int (a_cons (e_un neg_I e_int) a_nil)))
 (fun due_1 => (b_if (mid := fun s2 : (Int × Int) => [.val rpSp y.1, .val rpSp y.2.1, .val (rp2 (i := rpI) (j := rpI)) y.2.2.1, .val (rp2 (i := rpI) (j := rpI)) y.2.2.2.1, .val (rp2 (i := rpI) (j := rpI)) s2, .no, .no]) (t_pw (tw_and (t_cmp le_I (e_ix ix_2a (e_var 2 rfl) e_int) (e_ix ix_2b (e_var 2 rfl) e_int) (nomark _)) (tw_and1 (t_cmp le_I (e_ix ix_2a (e_var 3 rfl) e_int) (e_ix ix_2b (e_var 3 rfl) e_int) (nomark _)))))
 (b_set 4 nd (e_call F_law_ends (hr.mono (by decide)) G_law_ends K_law_ends B_law_ends (takes_of rfl rfl rfl rfl) (a_cons (e_tup2 (a_cons (e_cb (max_I rfl) T.f_max (a_cons (e_ix ix_2a (e_var 2 rfl) e_int) (a_cons (e_ix ix_2a (e_var 3 rfl) e_int) a_nil))) (a_cons (e_cb (min_I rfl) T.f_min (a_cons (e_ix ix_2b (e_var 2 rfl) e_int) (a_cons (e_ix ix_2b (e_var 3 rfl) e_int) a_nil))) a_nil))) a_nil))
 (fun due_3 => (b_nil due_3 (.cons (.refl _) (.cons (.refl _) (.cons (.refl _) (.cons (.refl _) (.cons (.refl _) (.cons (.refl _) (.cons (.refl _) .nil))))))))))
 (b_nil due_1 (.cons (.refl _) (.cons (.refl _) (.cons (.refl _) (.cons (.refl _) (.cons (.refl _) (.cons (.refl _) (.cons (.refl _) .nil))))))))
 (fun s2 => (b_if (mid := fun s4 : Unit => [.val rpSp y.1, .val rpSp y.2.1, .val (rp2 (i := rpI) (j := rpI)) y.2.2.1, .val (rp2 (i := rpI) (j := rpI)) y.2.2.2.1, .val (rp2 (i := rpI) (j := rpI)) s2, .no, .no]) (t_pw (tw_or (t_not (t_val (e_call F_law_is (hr.mono (by decide)) G_law_is K_law_is B_law_is (takes_of rfl rfl rfl rfl) (a_cons (e_op (opw_own ins_Sp ins_Sp F_Span_and B_Span_and (hr.mono (by decide)) T.sf T.s_and T.m_Span_and.2) (e_var 0 rfl) (e_var 1 rfl)) (a_cons (e_var 4 rfl) a_nil))))) (tw_or1 (t_not (t_val (e_call F_law_is (hr.mono (by decide)) G_law_is K_law_is B_law_is (takes_of rfl rfl rfl rfl) (a_cons (e_op (opw_own ins_Sp ins_Sp F_Span_and B_Span_and (hr.mono (by decide)) T.sf T.s_and T.m_Span_and.2) (e_var 1 rfl) (e_var 0 rfl)) (a_cons (e_var 4 rfl) a_nil))))))))
 (b_ret e_bool)
 (b_nil () (.cons (.refl _) (.cons (.refl _) (.cons (.refl _) (.cons (.refl _) (.cons (.refl _) (.cons (.refl _) (.cons (.refl _) .nil))))))))
 (fun s4 => (b_set 5 nd (e_op (opw_own ins_Sp ins_Sp F_Span_and B_Span_and (hr.mono (by decide)) T.sf T.s_and T.m_Span_and.2) (e_var 0 rfl) (e_var 1 rfl))
 (fun both_5 => (b_for (lpS := fun s6 : Unit => [.val rpSp y.1, .val rpSp y.2.1, .val (rp2 (i := rpI) (j := rpI)) y.2.2.1, .val (rp2 (i := rpI) (j := rpI)) y.2.2.2.1, .val (rp2 (i := rpI) (j := rpI)) s2, .val rpSp both_5, .no]) () (.cons (.refl _) (.cons (.refl _) (.cons (.refl _) (.cons (.refl _) (.cons (.refl _) (.cons (.refl _) (.cons (.refl _) .nil))))))) (passes_of rfl) rfl (i_lst (e_call F_law_members (hr.mono (by decide)) G_law_members K_law_members B_law_members (takes_of rfl rfl rfl rfl) (a_cons (e_var 2 rfl) a_nil))) (g_name 6 nd)
 (fun x7 s6 => (b_ifE (t_cmp ne_V (e_cmp (inw_own ins_Sp F_Span_contains B_Span_contains (hr.mono (by decide)) T.m_Span_contains.1 T.m_Span_contains.2) (e_var 6 rfl) (e_var 5 rfl) rfl) (e_chain le_I le_I (e_ix ix_2a (e_var 3 rfl) e_int) (e_var 6 rfl) (e_ix ix_2b (e_var 3 rfl) e_int)) (nomark _))
 (b_ret e_bool)
 (b_nil () (.cons (.refl _) (.cons (.refl _) (.cons (.refl _) (.cons (.refl _) (.cons (.refl _) (.cons (.refl _) (.cons (.no _) .nil))))))))))
 (fun s6 => (b_ret e_bool)))))))))))⟩) ?_, F.bindsN fun _ _ _ _ _ _ us hl => match us, hl with | [_, _, _, _], _ => rfl⟩, F.kp, T.g_law_meets⟩
  intro y post ep h
  dsimp only [endP, seqP]
  obtain ⟨⟨fl, fh⟩, ⟨sl, sh⟩, ⟨a, b⟩, ⟨c, d⟩, u⟩ := y
  obtain ⟨⟨o1, o2, ⟨r1, r2⟩, ⟨r3, r4⟩⟩, hp⟩ := h
  dsimp only at r1 r2 r3 r4 ⊢
  subst r1 r2 r3 r4
  have m1 := meet_rep o1 o2
  have k1 := meet_ok o1 o2
  have sw : mkSp (max sl fl) (min sh fh) = mkSp (max fl sl) (min fh sh) := by rw [Int.max_comm, Int.min_comm]
  have ok3 : Okp (0, -1) := by
    unfold Okp InB
    dsimp only
    omega
  have rp1 : fl ≤ fh → sl ≤ sh → Rep (mkSp (max fl sl) (min fh sh)) (ends (max fl sl, min fh sh)) := fun q1 q2 => by rw [if_pos ⟨q1, q2⟩] at m1; exact m1
  have rp2 : fl ≤ fh → sl ≤ sh → Rep (mkSp (max sl fl) (min sh fh)) (ends (max fl sl, min fh sh)) := fun q1 q2 => by rw [sw]; exact rp1 q1 q2
  have ok1 : fl ≤ fh → sl ≤ sh → Okp (ends (max fl sl, min fh sh)) := fun q1 q2 => by rw [if_pos ⟨q1, q2⟩] at k1; exact k1
  have rp3 : ¬ (fl ≤ fh ∧ sl ≤ sh) → Rep (mkSp (max fl sl) (min fh sh)) (0, -1) := fun q => by rw [if_neg q] at m1; exact m1
  have rp4 : ¬ (fl ≤ fh ∧ sl ≤ sh) → Rep (mkSp (max sl fl) (min sh fh)) (0, -1) := fun q => by rw [sw]; exact rp3 q
  refine ⟨rfl, rfl, ?_⟩
  by_cases q1 : fl ≤ fh
  · rw [if_pos (decide_eq_true q1)]
    refine ⟨rfl, rfl, ?_⟩
    by_cases q2 : sl ≤ sh
    · rw [if_pos (decide_eq_true q2)]
      refine ⟨rfl, rfl, rfl, rfl, ?_⟩
      refine ⟨⟨rp1 q1 q2, ok1 q1 q2⟩, ?_⟩
      rw [if_neg (by simp)]
      refine ⟨⟨rp2 q1 q2, ok1 q1 q2⟩, ?_⟩
      rw [if_neg (by simp)]
      refine ⟨⟨inb_w o1.1.1, inb_w o1.1.2⟩, fun _ => ?_⟩
      refine forP_ind (fun xs _ => ∀ x ∈ xs, x ∈ members (fl, fh)) (fun _ _ => hp) (fun x r s next hn hi => ⟨rfl, ?_⟩) _ _ (fun _ h => h)
      have hm := meet_mem (c := sl) (d := sh) (members_mem (hi x List.mem_cons_self)).1
      have hr := hn () (fun y hy => hi y (List.mem_cons_of_mem _ hy))
      dsimp only at hm
      have hd : decide ((mkSp (max fl sl) (min fh sh)).low ≤ x ∧ x ≤ (mkSp (max fl sl) (min fh sh)).high) = decide (sl ≤ x ∧ x ≤ sh) := decide_eq_decide.mpr hm
      by_cases z : sl ≤ x
      · rw [if_pos (decide_eq_true z)]
        refine ⟨rfl, ?_⟩
        rw [hd, if_neg (by simp [z])]
        exact hr
      · rw [if_neg (by simpa using z)]
        rw [hd, if_neg (by simp [z])]
        exact hr
    · rw [if_neg (by simpa using q2)]
      refine ⟨⟨rp3 (fun z => q2 z.2), ok3⟩, ?_⟩
      rw [if_neg (by simp)]
      refine ⟨⟨rp4 (fun z => q2 z.2), ok3⟩, ?_⟩
      rw [if_neg (by simp)]
      refine ⟨⟨inb_w o1.1.1, inb_w o1.1.2⟩, fun _ => ?_⟩
      refine forP_ind (fun xs _ => ∀ x ∈ xs, x ∈ members (fl, fh)) (fun _ _ => hp) (fun x r s next hn hi => ⟨rfl, ?_⟩) _ _ (fun _ h => h)
      have hm := meet_mem (c := sl) (d := sh) (members_mem (hi x List.mem_cons_self)).1
      have hr := hn () (fun y hy => hi y (List.mem_cons_of_mem _ hy))
      dsimp only at hm
      have hd : decide ((mkSp (max fl sl) (min fh sh)).low ≤ x ∧ x ≤ (mkSp (max fl sl) (min fh sh)).high) = decide (sl ≤ x ∧ x ≤ sh) := decide_eq_decide.mpr hm
      by_cases z : sl ≤ x
      · rw [if_pos (decide_eq_true z)]
        refine ⟨rfl, ?_⟩
        rw [hd, if_neg (by simp [z])]
        exact hr
      · rw [if_neg (by simpa using z)]
        rw [hd, if_neg (by simp [z])]
        exact hr
  · rw [if_neg (by simpa using q1), if_neg (by simp)]
    refine ⟨⟨rp3 (fun z => q1 z.1), ok3⟩, ?_⟩
    rw [if_neg (by simp)]
    refine ⟨⟨rp4 (fun z => q1 z.1), ok3⟩, ?_⟩
    rw [if_neg (by simp)]
    refine ⟨⟨inb_w o1.1.1, inb_w o1.1.2⟩, fun _ => ?_⟩
    refine forP_ind (fun xs _ => ∀ x ∈ xs, x ∈ members (fl, fh)) (fun _ _ => hp) (fun x r s next hn hi => ⟨rfl, ?_⟩) _ _ (fun _ h => h)
    have hm := meet_mem (c := sl) (d := sh) (members_mem (hi x List.mem_cons_self)).1
    have hr := hn () (fun y hy => hi y (List.mem_cons_of_mem _ hy))
    dsimp only at hm
    have hd : decide ((mkSp (max fl sl) (min fh sh)).low ≤ x ∧ x ≤ (mkSp (max fl sl) (min fh sh)).high) = decide (sl ≤ x ∧ x ≤ sh) := decide_eq_decide.mpr hm
    by_cases z : sl ≤ x
    · rw [if_pos (decide_eq_true z)]
      refine ⟨rfl, ?_⟩
      rw [hd, if_neg (by simp [z])]
      exact hr
    · rw [if_neg (by simpa using z)]
      rw [hd, if_neg (by simp [z])]
      exact hr
theorem sc_law_factor : FnScope ["box", "pairs", "factor", "pair"] ["box", "pairs"] (defScope s_law_factor) := ⟨rfl, rfl, rfl, by decide +kernel, rfl, by decide +kernel, by decide +kernel⟩
theorem ok_law_factor (T : Txt K mg) : Ok P w K mg base "_law_factor" (He.fAd K ("_law_factor", none)) 3 ["box", "pairs"] (spR K rsB (fun q => (aRf q (aCons (rpL (i := (rp2 (i := rpI) (j := rpI)))) aNil))) rpI (fun x post _ => (∀ p ∈ x.1, InB p.1 ∧ InB p.2) ∧ ∀ f : Int, InB f → (∀ p ∈ x.1, InB (p.1 * f) ∧ InB (p.2 * f)) → post f)) := by
  obtain ⟨fd_law_number, F_law_number, B_law_number⟩ := (ok_law_number (P := P) (w := w) (base := base) T).ex
  have K_law_number := (ok_law_number (P := P) (w := w) (base := base) T).kp
  have G_law_number := (ok_law_number (P := P) (w := w) (base := base) T).gm
  obtain ⟨fd_law_fits, F_law_fits, B_law_fits⟩ := (ok_law_fits (P := P) (w := w) (base := base) T).ex
  have K_law_fits := (ok_law_fits (P := P) (w := w) (base := base) T).kp
  have G_law_fits := (ok_law_fits (P := P) (w := w) (base := base) T).gm
  obtain ⟨fd, F⟩ := T.d_law_factor
  have nd := sc_law_factor.nd
  refine ⟨⟨fd, fn_okR F sc_law_factor (fun _ _ => rfl) (fun q y cdv A outer s H G E hr => ⟨_, (b_set 2 nd (e_callR rfl F_law_number (hr.mono (by decide)) G_law_number K_law_number B_law_number (takes_of rfl rfl rfl rfl) (a_rf 0 rfl a_nil))
 (fun factor_1 => (b_for (lpS := fun s2 : Int => [.rf q, .val (rpL (i := (rp2 (i := rpI) (j := rpI)))) y.1, .val rpI s2, .no]) factor_1 (.cons (.refl _) (.cons (.refl _) (.cons (.refl _) (.cons (.refl _) .nil)))) (passes_of rfl) rfl (i_lst (e_var 1 rfl)) (g_name 3 nd)
 (fun x3 s2 => (b_ifE (t_not (t_val (e_call F_law_fits (hr.mono (by decide)) G_law_fits K_law_fits B_law_fits (takes_of rfl rfl rfl rfl) (a_cons (e_tup2 (a_cons (e_op mul_I (e_ix ix_2a (e_var 3 rfl) e_int) (e_var 2 rfl)) (a_cons (e_op mul_I (e_ix ix_2b (e_var 3 rfl) e_int) (e_var 2 rfl)) a_nil))) a_nil))))
 (b_set 2 nd (e_op sub_I (e_op mod_I (e_ct int_I T.f_int (a_cons (e_var 2 rfl) a_nil)) e_int) e_int)
 (fun factor_4 => (b_nil factor_4 (.cons (.refl _) (.cons (.refl _) (.cons (.refl _) (.cons (.no _) .nil)))))))
 (b_nil s2 (.cons (.refl _) (.cons (.refl _) (.cons (.refl _) (.cons (.no _) .nil)))))))
 (fun s2 => (b_ret (e_var 2 rfl))))))⟩) ?_, F.bindsN fun _ _ _ _ _ _ us hl => match us, hl with | [_, _], _ => rfl⟩, F.kp, T.g_law_factor⟩
  intro y post ep h
  dsimp only [endP, seqP]
  obtain ⟨hb, h⟩ := h
  intro n hn _
  refine forP_ind (fun xs f => InB f ∧ (∀ p ∈ xs, p ∈ y.1) ∧ ∀ p ∈ y.1, p ∈ xs ∨ (InB (p.1 * f) ∧ InB (p.2 * f))) (fun f hf => h f hf.1 fun p hp => (hf.2.2 p hp).resolve_left (fun z => nomatch z)) (fun x r f next hx hi => ?_) _ _ ⟨hn, fun _ h => h, fun p hp => .inl hp⟩
  obtain ⟨⟨i1, i2⟩, i3, i4⟩ := hi
  refine ⟨rfl, .inr ⟨by omega, by omega⟩, rfl, .inr ⟨by omega, by omega⟩, ?_⟩
  by_cases q : InB (x.1 * f) ∧ InB (x.2 * f)
  · rw [if_neg (by unfold fits; simp [q])]
    refine hx _ ⟨⟨i1, i2⟩, fun p hp => i3 p (List.mem_cons_of_mem _ hp), fun p hp => ?_⟩
    rcases i4 p hp with z | z
    · rcases List.mem_cons.mp z with rfl | z
      · exact .inr q
      · exact .inl z
    · exact .inr z
  · rw [if_pos (by unfold fits; simp only [Bool.not_eq_true', decide_eq_false_iff_not]; exact q)]
    refine ⟨by omega, hx _ ⟨by unfold InB; omega, fun p hp => i3 p (List.mem_cons_of_mem _ hp), fun p hp => .inr ?_⟩⟩
    obtain ⟨⟨b1, b2⟩, ⟨b3, b4⟩⟩ := hb p hp
    have e : f % 3 - 1 = -1 ∨ f % 3 - 1 = 0 ∨ f % 3 - 1 = 1 := by omega
    unfold InB
    rcases e with e | e | e <;> rw [e] <;> omega
end
end K06

set_option Elab.async false
set_option linter.all false
set_option maxRecDepth 100000
set_option maxHeartbeats 1000000
set_option autoImplicit false
namespace K06
open PySem PySem.Spec PyProof.Rows L2 Ty

section
variable {P : Program} {w : World} {K : Fg} {mg : Str → Option Value} {base : Heap}
theorem sc_law : FnScope ["script", "box", "same", "pair", "other", "first", "second", "one", "two", "factor", "turn", "points", "due"] ["script"] (defScope s_law) := ⟨rfl, rfl, rfl, by decide +kernel, rfl, by decide +kernel, by decide +kernel⟩
theorem ok_law (T : Txt K mg) : ∃ fd, FunD K "law" "law" (defArgs s_law) (defBody s_law) (defScope s_law) [] [] (He.fAd K ("law", none)) fd ∧ ∀ base : Heap, FnOk P w K mg base (L2.CX P w) 6 (He.fAd K ("law", none)) fd ["script"] (spL K 63) := by
  obtain ⟨fd, F⟩ := T.d_law
  refine ⟨fd, F, fun base => ?_⟩
  obtain ⟨fd_law_box, F_law_box, B_law_box⟩ := (ok_law_box (P := P) (w := w) (base := base) T).ex
  have K_law_box := (ok_law_box (P := P) (w := w) (base := base) T).kp
  have G_law_box := (ok_law_box (P := P) (w := w) (base := base) T).gm
  obtain ⟨fd_law_draw, F_law_draw, B_law_draw⟩ := (ok_law_draw (P := P) (w := w) (base := base) T).ex
  have K_law_draw := (ok_law_draw (P := P) (w := w) (base := base) T).kp
  have G_law_draw := (ok_law_draw (P := P) (w := w) (base := base) T).gm
  obtain ⟨fd_law_pair, F_law_pair, B_law_pair⟩ := (ok_law_pair (P := P) (w := w) (base := base) T).ex
  have K_law_pair := (ok_law_pair (P := P) (w := w) (base := base) T).kp
  have G_law_pair := (ok_law_pair (P := P) (w := w) (base := base) T).gm
  obtain ⟨fd_Span, F_Span, B_Span⟩ := (ok_Span_init (P := P) (w := w) (base := base) T).ex
  have K_Span := T.mk_Span
  have G_Span := T.g_Span
  obtain ⟨fd_law_ends, F_law_ends, B_law_ends⟩ := (ok_law_ends (P := P) (w := w) (base := base) T).ex
  have K_law_ends := (ok_law_ends (P := P) (w := w) (base := base) T).kp
  have G_law_ends := (ok_law_ends (P := P) (w := w) (base := base) T).gm
  obtain ⟨fd_law_factor, F_law_factor, B_law_factor⟩ := (ok_law_factor (P := P) (w := w) (base := base) T).ex
  have K_law_factor := (ok_law_factor (P := P) (w := w) (base := base) T).kp
  have G_law_factor := (ok_law_factor (P := P) (w := w) (base := base) T).gm
  obtain ⟨fd_law_is, F_law_is, B_law_is⟩ := (ok_law_is (P := P) (w := w) (base := base) T).ex
  have K_law_is := (ok_law_is (P := P) (w := w) (base := base) T).kp
  have G_law_is := (ok_law_is (P := P) (w := w) (base := base) T).gm
  obtain ⟨fd_law_says, F_law_says, B_law_says⟩ := (ok_law_says (P := P) (w := w) (base := base) T).ex
  have K_law_says := (ok_law_says (P := P) (w := w) (base := base) T).kp
  have G_law_says := (ok_law_says (P := P) (w := w) (base := base) T).gm
  obtain ⟨fd_Span_eq, F_Span_eq, B_Span_eq⟩ := (ok_Span_eq (P := P) (w := w) (base := base) T).ex
  obtain ⟨fd_law_adds, F_law_adds, B_law_adds⟩ := (ok_law_adds (P := P) (w := w) (base := base) T).ex
  have K_law_adds := (ok_law_adds (P := P) (w := w) (base := base) T).kp
  have G_law_adds := (ok_law_adds (P := P) (w := w) (base := base) T).gm
  obtain ⟨fd_law_grows, F_law_grows, B_law_grows⟩ := (ok_law_grows (P := P) (w := w) (base := base) T).ex
  have K_law_grows := (ok_law_grows (P := P) (w := w) (base := base) T).kp
  have G_law_grows := (ok_law_grows (P := P) (w := w) (base := base) T).gm
  obtain ⟨fd_law_meets, F_law_meets, B_law_meets⟩ := (ok_law_meets (P := P) (w := w) (base := base) T).ex
  have K_law_meets := (ok_law_meets (P := P) (w := w) (base := base) T).kp
  have G_law_meets := (ok_law_meets (P := P) (w := w) (base := base) T).gm
  obtain ⟨fd_law_number, F_law_number, B_law_number⟩ := (ok_law_number (P := P) (w := w) (base := base) T).ex
  have K_law_number := (ok_law_number (P := P) (w := w) (base := base) T).kp
  have G_law_number := (ok_law_number (P := P) (w := w) (base := base) T).gm
  obtain ⟨fd_law_holds, F_law_holds, B_law_holds⟩ := (ok_law_holds (P := P) (w := w) (base := base) T).ex
  have K_law_holds := (ok_law_holds (P := P) (w := w) (base := base) T).kp
  have G_law_holds := (ok_law_holds (P := P) (w := w) (base := base) T).gm
  obtain ⟨fd_Span_add, F_Span_add, B_Span_add⟩ := (ok_Span_add (P := P) (w := w) (base := base) T).ex
  obtain ⟨fd_Span_rmul, F_Span_rmul, B_Span_rmul⟩ := (ok_Span_rmul (P := P) (w := w) (base := base) T).ex
  obtain ⟨fd_Span_and, F_Span_and, B_Span_and⟩ := (ok_Span_and (P := P) (w := w) (base := base) T).ex
  obtain ⟨fd_Span_mul, F_Span_mul, B_Span_mul⟩ := (ok_Span_mul (P := P) (w := w) (base := base) T).ex
  obtain ⟨fd_law_fits, F_law_fits, B_law_fits⟩ := (ok_law_fits (P := P) (w := w) (base := base) T).ex
  have K_law_fits := (ok_law_fits (P := P) (w := w) (base := base) T).kp
  have G_law_fits := (ok_law_fits (P := P) (w := w) (base := base) T).gm
  have nd := sc_law.nd
  refine fn_okBx F rfl sc_law (by decide) (fun cdv A outer s H E hr => ⟨_, ps_set nd rfl (.inl rfl) (e_call (c := Cc rs0 H H E) (ρ := .val rpQ [] :: List.replicate 12 .no) F_law_box (hr.mono (by decide)) G_law_box K_law_box B_law_box (takes_of rfl rfl rfl rfl) (a_cons (e_var 0 rfl) a_nil)).pe, fun ns => (e_call F_law_box (hr.mono (by decide)) G_law_box K_law_box B_law_box (takes_of rfl rfl rfl rfl) (a_cons (e_var 0 rfl) a_nil))⟩) (fun cdv A outer s H E hr => ⟨_, fun p H1 => JB.conv (b_set 2 nd (e_callR rfl F_law_draw (hr.mono (by decide)) G_law_draw K_law_draw B_law_draw (takes_of rfl rfl rfl rfl) (a_rf 1 rfl (a_cons e_int a_nil)))
 (fun same_1 => (b_set 3 nd (e_callR rfl F_law_pair (hr.mono (by decide)) G_law_pair K_law_pair B_law_pair (takes_of rfl rfl rfl rfl) (a_rf 1 rfl (a_cons (e_tup2 (a_cons e_int (a_cons e_int a_nil))) a_nil)))
 (fun pair_2 => (b_set 4 nd (e_callR rfl F_law_pair (hr.mono (by decide)) G_law_pair K_law_pair B_law_pair (takes_of rfl rfl rfl rfl) (a_rf 1 rfl (a_cons (e_var 3 rfl) a_nil)))
 (fun other_3 => (b_if (mid := fun s4 : (Int × Int) => [.no, .rf p, .val rpI same_1, .val (rp2 (i := rpI) (j := rpI)) pair_2, .val (rp2 (i := rpI) (j := rpI)) s4, .no, .no, .no, .no, .no, .no, .no, .no]) (t_cmp lt_I (e_var 2 rfl) e_int (nomark _))
 (b_set 4 nd (e_var 3 rfl)
 (fun other_5 => (b_nil other_5 (.cons (.refl _) (.cons (.refl _) (.cons (.refl _) (.cons (.refl _) (.cons (.refl _) (.cons (.refl _) (.cons (.refl _) (.cons (.refl _) (.cons (.refl _) (.cons (.refl _) (.cons (.refl _) (.cons (.refl _) (.cons (.refl _) .nil))))))))))))))))
 (b_nil other_3 (.cons (.refl _) (.cons (.refl _) (.cons (.refl _) (.cons (.refl _) (.cons (.refl _) (.cons (.refl _) (.cons (.refl _) (.cons (.refl _) (.cons (.refl _) (.cons (.refl _) (.cons (.refl _) (.cons (.refl _) (.cons (.refl _) .nil))))))))))))))
 (fun s4 => (b_set 5 nd (e_make K_Span F_Span (hr.mono (by decide)) G_Span B_Span (takes_of rfl rfl rfl rfl) (a_cons (e_ix ix_2a (e_var 3 rfl) e_int) (a_cons (e_ix ix_2b (e_var 3 rfl) e_int) a_nil)))
 (fun first_6 => (b_set 6 nd (e_make K_Span F_Span (hr.mono (by decide)) G_Span B_Span (takes_of rfl rfl rfl rfl) (a_cons (e_ix ix_2a (e_var 4 rfl) e_int) (a_cons (e_ix ix_2b (e_var 4 rfl) e_int) a_nil)))
 (fun second_7 => (b_if (mid := fun s8 : Sn => [.no, .rf p, .val rpI same_1, .val (rp2 (i := rpI) (j := rpI)) pair_2, .val (rp2 (i := rpI) (j := rpI)) s4, .val rpSp first_6, .val rpSp s8, .no, .no, .no, .no, .no, .no]) (t_cmp eq_V (e_var 2 rfl) e_int (nomark _))
 (b_set 6 nd (e_var 5 rfl)
 (fun second_9 => (b_nil second_9 (.cons (.refl _) (.cons (.refl _) (.cons (.refl _) (.cons (.refl _) (.cons (.refl _) (.cons (.refl _) (.cons (.refl _) (.cons (.refl _) (.cons (.refl _) (.cons (.refl _) (.cons (.refl _) (.cons (.refl _) (.cons (.refl _) .nil))))))))))))))))
 (b_nil second_7 (.cons (.refl _) (.cons (.refl _) (.cons (.refl _) (.cons (.refl _) (.cons (.refl _) (.cons (.refl _) (.cons (.refl _) (.cons (.refl _) (.cons (.refl _) (.cons (.refl _) (.cons (.refl _) (.cons (.refl _) (.cons (.refl _) .nil))))))))))))))
 (fun s8 => (b_set 7 nd (e_call F_law_ends (hr.mono (by decide)) G_law_ends K_law_ends B_law_ends (takes_of rfl rfl rfl rfl) (a_cons (e_var 3 rfl) a_nil))
 (fun one_10 => (b_set 8 nd (e_call F_law_ends (hr.mono (by decide)) G_law_ends K_law_ends B_law_ends (takes_of rfl rfl rfl rfl) (a_cons (e_var 4 rfl) a_nil))
 (fun two_11 => (b_set 9 nd (e_callR rfl F_law_factor (hr.mono (by decide)) G_law_factor K_law_factor B_law_factor (takes_of rfl rfl rfl rfl) (a_rf 1 rfl (a_cons (e_list (iα := (rp2 (i := rpI) (j := rpI))) (a_cons (e_var 7 rfl) (a_cons (e_var 8 rfl) a_nil)) (.cons (.cons .nil))) a_nil)))
 (fun factor_12 => (b_for (lpS := fun s13 : Unit => [.no, .rf p, .val rpI same_1, .val (rp2 (i := rpI) (j := rpI)) pair_2, .val (rp2 (i := rpI) (j := rpI)) s4, .val rpSp first_6, .val rpSp s8, .val (rp2 (i := rpI) (j := rpI)) one_10, .val (rp2 (i := rpI) (j := rpI)) two_11, .val rpI factor_12, .no, .no, .no]) () (.cons (.refl _) (.cons (.refl _) (.cons (.refl _) (.cons (.refl _) (.cons (.refl _) (.cons (.refl _) (.cons (.refl _) (.cons (.refl _) (.cons (.refl _) (.cons (.refl _) (.cons (.refl _) (.cons (.refl _) (.cons (.refl _) .nil))))))))))))) (passes_of rfl) rfl (i_rng1 (by rfl) T.f_range (a_cons e_int a_nil)) (g_name 10 nd)
 (fun x14 s13 => (b_if (mid := fun s15 : Unit => [.no, .rf p, .val rpI same_1, .val (rp2 (i := rpI) (j := rpI)) pair_2, .val (rp2 (i := rpI) (j := rpI)) s4, .val rpSp first_6, .val rpSp s8, .val (rp2 (i := rpI) (j := rpI)) one_10, .val (rp2 (i := rpI) (j := rpI)) two_11, .val rpI factor_12, .val rpI x14, .no, .no]) (t_pw (tw_or (t_not (t_val (e_call F_law_is (hr.mono (by decide)) G_law_is K_law_is B_law_is (takes_of rfl rfl rfl rfl) (a_cons (e_var 5 rfl) (a_cons (e_var 7 rfl) a_nil))))) (tw_or1 (t_not (t_val (e_call F_law_is (hr.mono (by decide)) G_law_is K_law_is B_law_is (takes_of rfl rfl rfl rfl) (a_cons (e_var 6 rfl) (a_cons (e_var 8 rfl) a_nil))))))))
 (b_ret e_bool)
 (b_nil () (.cons (.refl _) (.cons (.refl _) (.cons (.refl _) (.cons (.refl _) (.cons (.refl _) (.cons (.refl _) (.cons (.refl _) (.cons (.refl _) (.cons (.refl _) (.cons (.refl _) (.cons (.refl _) (.cons (.refl _) (.cons (.refl _) .nil))))))))))))))
 (fun s15 => (b_if (mid := fun s16 : Unit => [.no, .rf p, .val rpI same_1, .val (rp2 (i := rpI) (j := rpI)) pair_2, .val (rp2 (i := rpI) (j := rpI)) s4, .val rpSp first_6, .val rpSp s8, .val (rp2 (i := rpI) (j := rpI)) one_10, .val (rp2 (i := rpI) (j := rpI)) two_11, .val rpI factor_12, .val rpI x14, .no, .no]) (t_pw (tw_or (t_not (t_val (e_call F_law_says (hr.mono (by decide)) G_law_says K_law_says B_law_says (takes_of rfl rfl rfl rfl) (a_cons (e_cmp (cmpw_own (op := .Eq) (fun _ _ => rfl) ins_Sp ins_Sp F_Span_eq B_Span_eq (hr.mono (by decide)) T.s_eq T.m_Span_eq.2) (e_var 5 rfl) (e_var 6 rfl) (nomark _)) (a_cons (e_cmp (eq_D hr.units) (e_var 7 rfl) (e_var 8 rfl) (nomark _)) a_nil))))) (tw_or1 (t_not (t_val (e_call F_law_says (hr.mono (by decide)) G_law_says K_law_says B_law_says (takes_of rfl rfl rfl rfl) (a_cons (e_cmp (cmpw_own (op := .Eq) (fun _ _ => rfl) ins_Sp ins_Sp F_Span_eq B_Span_eq (hr.mono (by decide)) T.s_eq T.m_Span_eq.2) (e_var 6 rfl) (e_var 5 rfl) (nomark _)) (a_cons (e_cmp (eq_D hr.units) (e_var 7 rfl) (e_var 8 rfl) (nomark _)) a_nil))))))))
 (b_ret e_bool)
 (b_nil () (.cons (.refl _) (.cons (.refl _) (.cons (.refl _) (.cons (.refl _) (.cons (.refl _) (.cons (.refl _) (.cons (.refl _) (.cons (.refl _) (.cons (.refl _) (.cons (.refl _) (.cons (.refl _) (.cons (.refl _) (.cons (.refl _) .nil))))))))))))))
 (fun s16 => (b_if (mid := fun s17 : Unit => [.no, .rf p, .val rpI same_1, .val (rp2 (i := rpI) (j := rpI)) pair_2, .val (rp2 (i := rpI) (j := rpI)) s4, .val rpSp first_6, .val rpSp s8, .val (rp2 (i := rpI) (j := rpI)) one_10, .val (rp2 (i := rpI) (j := rpI)) two_11, .val rpI factor_12, .val rpI x14, .no, .no]) (t_pw (tw_or (t_not (t_val (e_call F_law_adds (hr.mono (by decide)) G_law_adds K_law_adds B_law_adds (takes_of rfl rfl rfl rfl) (a_cons (e_var 5 rfl) (a_cons (e_var 6 rfl) (a_cons (e_var 7 rfl) (a_cons (e_var 8 rfl) a_nil))))))) (tw_or1 (t_not (t_val (e_call F_law_adds (hr.mono (by decide)) G_law_adds K_law_adds B_law_adds (takes_of rfl rfl rfl rfl) (a_cons (e_var 5 rfl) (a_cons (e_var 5 rfl) (a_cons (e_var 7 rfl) (a_cons (e_var 7 rfl) a_nil))))))))))
 (b_ret e_bool)
 (b_nil () (.cons (.refl _) (.cons (.refl _) (.cons (.refl _) (.cons (.refl _) (.cons (.refl _) (.cons (.refl _) (.cons (.refl _) (.cons (.refl _) (.cons (.refl _) (.cons (.refl _) (.cons (.refl _) (.cons (.refl _) (.cons (.refl _) .nil))))))))))))))
 (fun s17 => (b_if (mid := fun s18 : Unit => [.no, .rf p, .val rpI same_1, .val (rp2 (i := rpI) (j := rpI)) pair_2, .val (rp2 (i := rpI) (j := rpI)) s4, .val rpSp first_6, .val rpSp s8, .val (rp2 (i := rpI) (j := rpI)) one_10, .val (rp2 (i := rpI) (j := rpI)) two_11, .val rpI factor_12, .val rpI x14, .no, .no]) (t_pw (tw_or (t_not (t_val (e_call F_law_grows (hr.mono (by decide)) G_law_grows K_law_grows B_law_grows (takes_of rfl rfl rfl rfl) (a_cons (e_var 5 rfl) (a_cons (e_var 7 rfl) (a_cons (e_var 9 rfl) a_nil)))))) (tw_or1 (t_not (t_val (e_call F_law_grows (hr.mono (by decide)) G_law_grows K_law_grows B_law_grows (takes_of rfl rfl rfl rfl) (a_cons (e_var 6 rfl) (a_cons (e_var 8 rfl) (a_cons (e_un neg_I (e_var 9 rfl)) a_nil)))))))))
 (b_ret e_bool)
 (b_nil () (.cons (.refl _) (.cons (.refl _) (.cons (.refl _) (.cons (.refl _) (.cons (.refl _) (.cons (.refl _) (.cons (.refl _) (.cons (.refl _) (.cons (.refl _) (.cons (.refl _) (.cons (.refl _) (.cons (.refl _) (.cons (.refl _) .nil))))))))))))))
 (fun s18 => (b_if (mid := fun s19 : Unit => [.no, .rf p, .val rpI same_1, .val (rp2 (i := rpI) (j := rpI)) pair_2, .val (rp2 (i := rpI) (j := rpI)) s4, .val rpSp first_6, .val rpSp s8, .val (rp2 (i := rpI) (j := rpI)) one_10, .val (rp2 (i := rpI) (j := rpI)) two_11, .val rpI factor_12, .val rpI x14, .no, .no]) (t_pw (tw_or (t_not (t_val (e_call F_law_meets (hr.mono (by decide)) G_law_meets K_law_meets B_law_meets (takes_of rfl rfl rfl rfl) (a_cons (e_var 5 rfl) (a_cons (e_var 6 rfl) (a_cons (e_var 7 rfl) (a_cons (e_var 8 rfl) a_nil))))))) (tw_or1 (t_not (t_val (e_call F_law_meets (hr.mono (by decide)) G_law_meets K_law_meets B_law_meets (takes_of rfl rfl rfl rfl) (a_cons (e_var 5 rfl) (a_cons (e_var 5 rfl) (a_cons (e_var 7 rfl) (a_cons (e_var 7 rfl) a_nil))))))))))
 (b_ret e_bool)
 (b_nil () (.cons (.refl _) (.cons (.refl _) (.cons (.refl _) (.cons (.refl _) (.cons (.refl _) (.cons (.refl _) (.cons (.refl _) (.cons (.refl _) (.cons (.refl _) (.cons (.refl _) (.cons (.refl _) (.cons (.refl _) (.cons (.refl _) .nil))))))))))))))
 (fun s19 => (b_set 11 nd (e_list (iα := rpI) (a_cons (e_op sub_I (e_ix ix_2a (e_var 3 rfl) e_int) e_int) (a_cons (e_ix ix_2a (e_var 3 rfl) e_int) (a_cons (e_op add_I (e_ix ix_2a (e_var 3 rfl) e_int) e_int) (a_cons (e_op sub_I (e_ix ix_2b (e_var 3 rfl) e_int) e_int) (a_cons (e_ix ix_2b (e_var 3 rfl) e_int) (a_cons (e_op add_I (e_ix ix_2b (e_var 3 rfl) e_int) e_int) (a_cons (e_var 9 rfl) (a_cons e_int (a_cons (e_un neg_I e_int) a_nil))))))))) (.cons (.cons (.cons (.cons (.cons (.cons (.cons (.cons (.cons .nil))))))))))
 (fun points_20 => (b_set 11 nd (e_op add_L (e_var 11 rfl) (e_list (iα := rpI) (a_cons (e_ix ix_2a (e_var 4 rfl) e_int) (a_cons (e_ix ix_2b (e_var 4 rfl) e_int) (a_cons (e_callR rfl F_law_number (hr.mono (by decide)) G_law_number K_law_number B_law_number (takes_of rfl rfl rfl rfl) (a_rf 1 rfl a_nil)) a_nil))) (.cons (.cons (.cons .nil)))))
 (fun points_21 => (b_ifE (t_pw (tw_or (t_not (t_val (e_call F_law_holds (hr.mono (by decide)) G_law_holds K_law_holds B_law_holds (takes_of rfl rfl rfl rfl) (a_cons (e_var 5 rfl) (a_cons (e_var 7 rfl) (a_cons (e_var 11 rfl) a_nil)))))) (tw_or1 (t_not (t_val (e_call F_law_holds (hr.mono (by decide)) G_law_holds K_law_holds B_law_holds (takes_of rfl rfl rfl rfl) (a_cons (e_var 6 rfl) (a_cons (e_var 8 rfl) (a_cons (e_var 11 rfl) a_nil)))))))))
 (b_ret e_bool)
 (b_nil () (.cons (.refl _) (.cons (.refl _) (.cons (.refl _) (.cons (.refl _) (.cons (.refl _) (.cons (.refl _) (.cons (.refl _) (.cons (.refl _) (.cons (.refl _) (.cons (.refl _) (.cons (.no _) (.cons (.no _) (.cons (.refl _) .nil))))))))))))))))))))))))))))))
 (fun s13 => (b_if (mid := fun s22 : Unit => [.no, .rf p, .val rpI same_1, .val (rp2 (i := rpI) (j := rpI)) pair_2, .val (rp2 (i := rpI) (j := rpI)) s4, .val rpSp first_6, .val rpSp s8, .val (rp2 (i := rpI) (j := rpI)) one_10, .val (rp2 (i := rpI) (j := rpI)) two_11, .val rpI factor_12, .no, .no, .no]) (t_pw (tw_or (t_cmp gt_I (e_ix ix_2a (e_var 7 rfl) e_int) (e_ix ix_2b (e_var 7 rfl) e_int) (nomark _)) (tw_or1 (t_cmp gt_I (e_ix ix_2a (e_var 8 rfl) e_int) (e_ix ix_2b (e_var 8 rfl) e_int) (nomark _)))))
 (b_ret (e_and (e_call F_law_is (hr.mono (by decide)) G_law_is K_law_is B_law_is (takes_of rfl rfl rfl rfl) (a_cons (e_op (rmulw_own ins_Sp F_Span_rmul B_Span_rmul (hr.mono (by decide)) T.sf T.s_mul T.s_rmul T.m_Span_rmul.2 T.o_sub) (e_var 9 rfl) (e_op (opw_own ins_Sp ins_Sp F_Span_add B_Span_add (hr.mono (by decide)) T.sf T.s_add T.m_Span_add.2) (e_var 5 rfl) (e_var 6 rfl))) (a_cons (e_tup2 (a_cons e_int (a_cons (e_un neg_I e_int) a_nil))) a_nil))) (e_one (e_call F_law_is (hr.mono (by decide)) G_law_is K_law_is B_law_is (takes_of rfl rfl rfl rfl) (a_cons (e_op (opw_ownI ins_Sp F_Span_mul B_Span_mul (hr.mono (by decide)) T.sf T.s_mul T.m_Span_mul.2 T.s_rmul (.inr ⟨_, rfl⟩) int_mul_at int_rmul_at T.i_sub) (e_op (opw_own ins_Sp ins_Sp F_Span_and B_Span_and (hr.mono (by decide)) T.sf T.s_and T.m_Span_and.2) (e_var 5 rfl) (e_var 6 rfl)) (e_var 9 rfl)) (a_cons (e_tup2 (a_cons e_int (a_cons (e_un neg_I e_int) a_nil))) a_nil))))))
 (b_nil () (.cons (.refl _) (.cons (.refl _) (.cons (.refl _) (.cons (.refl _) (.cons (.refl _) (.cons (.refl _) (.cons (.refl _) (.cons (.refl _) (.cons (.refl _) (.cons (.refl _) (.cons (.refl _) (.cons (.refl _) (.cons (.refl _) .nil))))))))))))))
 (fun s22 => (b_set 12 nd (e_tup2 (a_cons (e_op mul_I (e_var 9 rfl) (e_op add_I (e_ix ix_2a (e_var 7 rfl) e_int) (e_ix ix_2a (e_var 8 rfl) e_int))) (a_cons (e_op mul_I (e_var 9 rfl) (e_op add_I (e_ix ix_2b (e_var 7 rfl) e_int) (e_ix ix_2b (e_var 8 rfl) e_int))) a_nil)))
 (fun due_23 => (b_if (mid := fun s24 : Unit => [.no, .rf p, .val rpI same_1, .val (rp2 (i := rpI) (j := rpI)) pair_2, .val (rp2 (i := rpI) (j := rpI)) s4, .val rpSp first_6, .val rpSp s8, .val (rp2 (i := rpI) (j := rpI)) one_10, .val (rp2 (i := rpI) (j := rpI)) two_11, .val rpI factor_12, .no, .no, .val (rp2 (i := rpI) (j := rpI)) due_23]) (t_pw (tw_or (t_not (t_val (e_call F_law_fits (hr.mono (by decide)) G_law_fits K_law_fits B_law_fits (takes_of rfl rfl rfl rfl) (a_cons (e_tup2 (a_cons (e_op add_I (e_ix ix_2a (e_var 7 rfl) e_int) (e_ix ix_2a (e_var 8 rfl) e_int)) (a_cons (e_op add_I (e_ix ix_2b (e_var 7 rfl) e_int) (e_ix ix_2b (e_var 8 rfl) e_int)) a_nil))) a_nil)))) (tw_or1 (t_not (t_val (e_call F_law_fits (hr.mono (by decide)) G_law_fits K_law_fits B_law_fits (takes_of rfl rfl rfl rfl) (a_cons (e_var 12 rfl) a_nil)))))))
 (b_ret e_bool)
 (b_nil () (.cons (.refl _) (.cons (.refl _) (.cons (.refl _) (.cons (.refl _) (.cons (.refl _) (.cons (.refl _) (.cons (.refl _) (.cons (.refl _) (.cons (.refl _) (.cons (.refl _) (.cons (.refl _) (.cons (.refl _) (.cons (.refl _) .nil))))))))))))))
 (fun s24 => (b_ret (e_call F_law_is (hr.mono (by decide)) G_law_is K_law_is B_law_is (takes_of rfl rfl rfl rfl) (a_cons (e_op (rmulw_own ins_Sp F_Span_rmul B_Span_rmul (hr.mono (by decide)) T.sf T.s_mul T.s_rmul T.m_Span_rmul.2 T.o_sub) (e_var 9 rfl) (e_op (opw_own ins_Sp ins_Sp F_Span_add B_Span_add (hr.mono (by decide)) T.sf T.s_add T.m_Span_add.2) (e_var 5 rfl) (e_var 6 rfl))) (a_cons (e_tup2 (a_cons (e_cb (min_P rfl hr.units) T.f_min (a_cons (e_var 12 rfl) a_nil)) (a_cons (e_cb (max_P rfl hr.units) T.f_max (a_cons (e_var 12 rfl) a_nil)) a_nil))) a_nil)))))))))))))))))))))))))))))))) (by dsimp only [Cc] <;> rfl) (by first | rfl | (dsimp only [Cc] <;> rfl))⟩) (fun _ => trivial) ?_
  refine ⟨⟨by omega, by omega⟩, fun same s1 s2 => ⟨⟨by show InB 0; unfold InB; omega, by show InB 0; unfold InB; omega⟩, fun a b ha hb => ⟨⟨ha, hb⟩, fun c d hc hd => ?_⟩⟩⟩
  refine seq_if (fun z => (InB z.1 ∧ InB z.2) ∧ (same = 0 → z = (a, b))) (fun _ => ⟨⟨ha, hb⟩, fun _ => rfl⟩) (fun q => ⟨⟨hc, hd⟩, fun e => by rw [e] at q; simp at q⟩) (fun other ho => ?_)
  clear hc hd
  obtain ⟨⟨hc, hd⟩, heq⟩ := ho
  refine ⟨rfl, rfl, rfl, rfl, ?_⟩
  refine seq_if (fun z : Sn => Rep z (ends other)) (fun q => by rw [heq (of_decide_eq_true q)]; exact ends_rep) (fun _ => ends_rep (a := other.1) (b := other.2)) (fun second R2 => ?_)
  have o1 : Okp (ends (a, b)) := ends_ok ha hb
  have R1 : Rep (mkSp a b) (ends (a, b)) := ends_rep
  have o2 : Okp (ends other) := ends_ok (a := other.1) (b := other.2) hc hd
  refine ⟨by rw [sizeLine_eq]; simp, ?_⟩
  dsimp only
  generalize mkSp a b = first at *
  generalize ends other = two at *
  generalize ends (a, b) = one at *
  obtain ⟨fl, fh⟩ := first
  obtain ⟨sl, sh⟩ := second
  obtain ⟨x1, x2⟩ := one
  obtain ⟨y1, y2⟩ := two
  obtain ⟨r1, r2⟩ := R1
  obtain ⟨r3, r4⟩ := R2
  dsimp only at r1 r2 r3 r4
  subst r1 r2 r3 r4
  refine ⟨fun p hp => ?_, fun f hf hfit => ?_⟩
  · rcases List.mem_cons.mp hp with rfl | hp
    · exact o1.1
    · rw [List.mem_singleton.mp hp]
      exact o2.1
  have f1 := hfit _ List.mem_cons_self
  have f2 := hfit _ (List.mem_cons_of_mem _ List.mem_cons_self)
  dsimp only at f1 f2
  refine ⟨⟨by omega, by omega⟩, ?_⟩
  refine forP_ind (fun _ _ => True) (fun _ _ => ?_) (fun x r s next hn _ => ?_) _ _ trivial
  · dsimp only
    have hw : InW f := inb_w hf
    refine ⟨rfl, rfl, ?_⟩
    by_cases q : fl ≤ fh ∧ sl ≤ sh
    · rw [if_neg (by simpa using q.1)]
      refine ⟨rfl, rfl, ?_⟩
      rw [if_neg (by simpa using q.2)]
      refine seq_nx ?_
      have cm : ∀ n, CMul f n := fun n => .inl ⟨by unfold InB at hf; omega, by unfold InB at hf; omega⟩
      refine ⟨rfl, rfl, cm _, rfl, rfl, cm _, rfl, rfl, rfl, rfl, ?_⟩
      cases k1 : fits (fl + sl, fh + sh) with
      | false =>
        simp only [Bool.not_false, if_true]
        exact rfl
      | true =>
        simp only [Bool.not_true, Bool.false_eq_true, if_false]
        cases k2 : fits (f * (fl + sl), f * (fh + sh)) with
        | false =>
          simp only [Bool.not_false, if_true]
          exact rfl
        | true =>
          simp only [Bool.not_true, Bool.false_eq_true, if_false]
          refine seq_nx ⟨hw, ⟨?_, ?_⟩, rfl⟩
          · rw [full_add q, Int.mul_comm f (fl + sl), Int.mul_comm f (fh + sh)]
            exact mul_rep (by omega)
          · have z := of_decide_eq_true k2
            unfold InB at z
            unfold Okp InB
            dsimp only at z ⊢
            omega
    · have e1 := emp_add q
      have e2 := emp_meet o1 o2 q
      have e3 := emp_mul (f := f)
      have ret : (InW f ∧ (Rep (spMul (spAdd ⟨fl, fh⟩ ⟨sl, sh⟩) f) (0, -1) ∧ Okp (0, -1)) ∧ (if true = true then InW f ∧ (Rep (spMul (mkSp (max fl sl) (min fh sh)) f) (0, -1) ∧ Okp (0, -1)) ∧ true = true else false = true)) := by
        rw [e1, e2, e3]
        exact ⟨hw, ⟨⟨rfl, rfl⟩, ok_emp⟩, by rw [if_pos rfl]; exact ⟨hw, ⟨⟨rfl, rfl⟩, ok_emp⟩, rfl⟩⟩
      by_cases q1 : fl ≤ fh
      · rw [if_neg (by simpa using q1)]
        refine ⟨rfl, rfl, ?_⟩
        rw [if_pos (by have : ¬ sl ≤ sh := fun z => q ⟨q1, z⟩; simpa using this)]
        exact ret
      · rw [if_pos (by simpa using q1), if_pos (by simp)]
        exact ret
  · dsimp only
    refine two_no ⟨⟨rfl, rfl⟩, o1⟩ ⟨⟨rfl, rfl⟩, o2⟩ (seq_nx ?_)
    have d1 : decide (fl = sl ∧ fh = sh) = decide ((fl, fh) = (sl, sh)) := decide_eq_decide.mpr (by rw [Prod.mk.injEq])
    have d2 : decide (sl = fl ∧ sh = fh) = decide ((fl, fh) = (sl, sh)) := decide_eq_decide.mpr (by rw [Prod.mk.injEq]; exact ⟨fun z => ⟨z.1.symm, z.2.symm⟩, fun z => ⟨z.1.symm, z.2.symm⟩⟩)
    refine ⟨⟨trivial, trivial⟩, ⟨trivial, trivial⟩, ?_⟩
    rw [d1, if_neg (by simp)]
    refine ⟨⟨trivial, trivial⟩, ⟨trivial, trivial⟩, ?_⟩
    rw [d2, if_neg (by simp)]
    refine seq_nx ?_
    have g1 : InB (-f) := by unfold InB at *; omega
    have g2 : InB (sl * -f) := by rw [Int.mul_neg]; unfold InB at *; omega
    have g3 : InB (sh * -f) := by rw [Int.mul_neg]; unfold InB at *; omega
    refine two_no ⟨o1, o2, ⟨rfl, rfl⟩, ⟨rfl, rfl⟩⟩ ⟨o1, o1, ⟨rfl, rfl⟩, ⟨rfl, rfl⟩⟩ (seq_nx ?_)
    refine two_no ⟨⟨rfl, rfl⟩, o1, hf, f1.1, f1.2⟩ ⟨⟨rfl, rfl⟩, o2, g1, g2, g3⟩ (seq_nx ?_)
    refine two_no ⟨o1, o2, ⟨rfl, rfl⟩, ⟨rfl, rfl⟩⟩ ⟨o1, o1, ⟨rfl, rfl⟩, ⟨rfl, rfl⟩⟩ (seq_nx ?_)
    refine ⟨rfl, rfl, rfl, rfl, rfl, rfl, by rw [sizeLine_eq]; simp, rfl, rfl, fun n hn' => ⟨by rw [sizeLine_eq]; simp, by rw [sizeLine_eq]; simp, ?_⟩⟩
    exact two_no ⟨rfl, rfl⟩ ⟨rfl, rfl⟩ (hn () trivial)
end
end K06

set_option Elab.async false
set_option linter.all false
set_option maxRecDepth 100000
set_option maxHeartbeats 0
set_option autoImplicit false
namespace Ty
open PySem PySem.Spec PyProof.Rows L2
/-- a law's end: the promise may speak of the world -/
theorem walk_ofW {l : PySem.W.OpenLaw} {n k : Nat} {q : Program} {loose : List Str} {XP : (Str → Option Value) → Heap → Prop} {YP : World → Heap → Prop} {d : DefRec} {x : Str}
    (hn : l.most = some n) (hn2 : n ≤ sizeLine) (hdf : d.params.defaults = []) (hr : Room k callerA)
    (F : ∀ (w : World) (mg : Str → Option Value) (fa : Addr) (h : Heap), YP w h → h.Ns mainGlobals mg → mg d.name = some (.ref fa) →
      ∃ (K : PySem.W.Frag) (fd : FuncData), K.In h ∧ (∀ (s : Shared) (u : Value), BindsTo s fd ⟨[u], []⟩ [(x, u)]) ∧ ∀ base : Heap, FnOk l.prog w K mg base (L2.CX l.prog w) k fa fd [x] (spL K n)) :
    PySem.W.WalkO q loose XP YP l.row.toRowW d [] (fun f vs => PySem.call f vs) := by
  refine Att.attach_call hn hdf fun w s₀ s₁ mg mb fa o pm cd doc a vs ns G Y ho hd hcd hmg hobj hints hlen hg => ?_
  obtain ⟨K, fd, KX, hb, hF⟩ := F w mg fa _ Y G.T.g hmg
  exact law_call KX G.T.g G.T.b G.T.builtins G.T.nolimit hg hobj hints (Nat.le_trans hlen hn2) hr (fun base _ _ => hF base) hb (fun H hO hS => ⟨a, ns, rfl, hS, hlen, hO, fun _ => rfl⟩) fun H e s' h => by
    obtain ⟨_, _, _, _, _, _, _, _, _, _, _, _, z⟩ := h
    exact z
end Ty
namespace K06
open PySem PySem.Spec PyProof.Rows L2 Ty
theorem facts {P : Program} {w : World} {K : Fg} {h : Heap} {mg : Str → Option Value} {f : Addr} (X : K.In h) (G : h.Ns mainGlobals mg) (hfa : mg ("law" : Str) = some (.ref f)) (c : He.SaysX fa fn [] [] exB w h K) :
    ∃ fd : FuncData, (∀ (s : Shared) (v : Value), BindsTo s fd ⟨[v], []⟩ [("script", v)]) ∧ ∀ base : Heap, FnOk P w K mg base (L2.CX P w) 6 f fd ["script"] (spL K 63) := by
  have T : Txt K mg := Txt.of X G c.t.d c.more
  obtain ⟨fd, F, ok⟩ := ok_law (P := P) (w := w) T
  have e := hfa.symm.trans T.g_law
  cases e
  have b := FunD.bindsA (ps := ["script"]) F fun _ _ _ _ _ _ us hl => match us, hl with | [_], _ => rfl
  exact ⟨fd, fun s v => b s [v] rfl, ok⟩
end K06
open PySem PySem.W PySem.Calls PyProof.Rows
theorem PySem.Challenge.cw_valvewise_k06_spans_holds : PySem.Challenge.rw_valvewise_k06_spans.Holds := by
  w_on; o_law
  refine HandSHeadRun.head_any (r := OpenLaw.row PySem.Challenge.rw_valvewise_k06_spans) (q := view (OpenLaw.row PySem.Challenge.rw_valvewise_k06_spans).prog [20]) (H := K06.hk) (ob := K06.ob) (M := 4000) (loose := K06.loose) (d := HandSHeadRun.topDef (OpenLaw.row PySem.Challenge.rw_valvewise_k06_spans).prog 20) (kwd := []) K06.ob_eq
    (by kernel_rfl) (fun s => by kernel_rfl) K06.run (by kernel_rfl) (by kernel_rfl) (by kernel_rfl) (by rfl) (by first | assumption | decide +kernel) (by decide +kernel) ⟨rfl, rfl, rfl, rfl, rfl, by decide +kernel⟩ ?hw ?hc
  case hw => w_witness2
  case hc =>
    refine Ty.walk_ofW (l := PySem.Challenge.rw_valvewise_k06_spans) (n := 63) (k := 6) (x := "script") rfl (by decide) (by kernel_rfl) ⟨rfl, by decide, by decide⟩ ?F
    intro w mg fa h Y G hmg0
    obtain ⟨K, KX, c⟩ := Y
    have hmg : mg ("law" : PySem.Str) = some (.ref fa) := by
      have e : (HandSHeadRun.topDef (OpenLaw.row PySem.Challenge.rw_valvewise_k06_spans).prog 20).name = ("law" : PySem.Str) := by kernel_rfl
      rw [← e]
      exact hmg0
    obtain ⟨fd, hb, hF⟩ := K06.facts (P := (PySem.Challenge.rw_valvewise_k06_spans).prog) (w := w) KX G hmg c
    exact ⟨K, fd, KX, hb, hF⟩

