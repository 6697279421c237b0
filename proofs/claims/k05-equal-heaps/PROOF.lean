import PyProof.Rows.All
import Wide.All
import OpenK.AllK
import Wide.FinOn
import HandS.ForMost
import HandS.Exc
import HandS.More
import HandS.Conv
import HandS.Codes
import HandS.IsInst
import HandS.Defaults
import HandS.DeepEq
import HandS.SortKw
import HandS.Style
import HandS.Flow
import HandS.WordsExc
import HandS.Head0
import HandS.Head1
import HandS.Head2
import HandS.HeadEnd
import HandS.HeadHook1
import HandS.HeadHook2
import KE.SortData
import PyProof.StrBlock2
import HandS.OwnEq
import PySem.Challenge.RW_thawedwrites_k05_whole_equal_heaps
section partK5Math
/-! The plain law: meeting order, pairing, shapes. Core Lean alone. -/
namespace K5
abbrev ON := Option Nat
variable {φ : Type}
def addV (o : List Nat) : ON → List Nat
  | none => o
  | some n => if n ∈ o then o else o ++ [n]
def scan (val : Nat → φ → ON) (fs : List φ) (o : List Nat) (n : Nat) : List Nat := fs.foldl (fun o f => addV o (val n f)) o
/-- the loop of the meeting, from place i with order o, ends with r -/
inductive Runs (val : Nat → φ → ON) (fs : List φ) : Nat → List Nat → List Nat → Prop
  | stop {i : Nat} {o : List Nat} (h : o.length ≤ i) : Runs val fs i o o
  | step {i : Nat} {o r : List Nat} {n : Nat} (h : o[i]? = some n) (t : Runs val fs (i + 1) (scan val fs o n) r) : Runs val fs i o r

theorem addV_in {o : List Nat} {n : Nat} (h : n ∈ o) : addV o (some n) = o := if_pos h
theorem addV_out {o : List Nat} {n : Nat} (h : ¬ n ∈ o) : addV o (some n) = o ++ [n] := if_neg h
theorem addV_sub {o : List Nat} {v : ON} {x : Nat} (h : x ∈ o) : x ∈ addV o v := by
  cases v with
  | none => exact h
  | some n =>
    by_cases e : n ∈ o
    · rw [addV_in e]; exact h
    · rw [addV_out e]; exact List.mem_append_left _ h
theorem addV_has {o : List Nat} {n : Nat} : n ∈ addV o (some n) := by
  by_cases e : n ∈ o
  · rw [addV_in e]; exact e
  · rw [addV_out e]; simp
theorem addV_nd {o : List Nat} {v : ON} (h : o.Nodup) : (addV o v).Nodup := by
  cases v with
  | none => exact h
  | some n =>
    by_cases e : n ∈ o
    · rw [addV_in e]; exact h
    · rw [addV_out e, List.nodup_append]
      refine ⟨h, by simp, fun a ha b hb e2 => ?_⟩
      simp at hb
      subst hb
      exact e (e2 ▸ ha)
theorem addV_bd {o : List Nat} {v : ON} {c : Nat} (h : ∀ x ∈ o, x < c) (hv : ∀ n, v = some n → n < c) : ∀ x ∈ addV o v, x < c := by
  cases v with
  | none => exact h
  | some n =>
    by_cases e : n ∈ o
    · rw [addV_in e]; exact h
    · rw [addV_out e]
      intro x hx
      rcases List.mem_append.mp hx with hx | hx
      · exact h x hx
      · simp at hx
        subst hx
        exact hv _ rfl
theorem addV_pre {o : List Nat} {v : ON} {i n : Nat} (h : o[i]? = some n) : (addV o v)[i]? = some n := by
  cases v with
  | none => exact h
  | some m =>
    by_cases e : m ∈ o
    · rw [addV_in e]; exact h
    · rw [addV_out e, List.getElem?_append_left (List.getElem?_eq_some_iff.mp h).1]
      exact h
theorem addV_len {o : List Nat} {v : ON} : o.length ≤ (addV o v).length := by
  cases v with
  | none => exact Nat.le_refl _
  | some m =>
    by_cases e : m ∈ o
    · rw [addV_in e]; exact Nat.le_refl _
    · rw [addV_out e]; simp
section
variable {ν : Type} {x : ν → ON}
/-- a fold of addV -/
def foldA (x : ν → ON) (fs : List ν) (o : List Nat) : List Nat := fs.foldl (fun o f => addV o (x f)) o
theorem foldA_sub : ∀ {fs : List ν} {o : List Nat} {n : Nat}, n ∈ o → n ∈ foldA x fs o
  | [], _, _, h => h
  | _ :: fs, _, _, h => foldA_sub (fs := fs) (addV_sub h)
theorem foldA_nd : ∀ {fs : List ν} {o : List Nat}, o.Nodup → (foldA x fs o).Nodup
  | [], _, h => h
  | _ :: fs, _, h => foldA_nd (fs := fs) (addV_nd h)
theorem foldA_bd {c : Nat} : ∀ {fs : List ν} {o : List Nat}, (∀ n ∈ o, n < c) → (∀ f ∈ fs, ∀ n, x f = some n → n < c) → ∀ n ∈ foldA x fs o, n < c
  | [], _, h, _ => h
  | f :: fs, _, h, hx => foldA_bd (fs := fs) (addV_bd h (hx f (List.mem_cons_self ..))) fun g hg => hx g (List.mem_cons_of_mem _ hg)
theorem foldA_has : ∀ {fs : List ν} {o : List Nat} {f : ν} {n : Nat}, f ∈ fs → x f = some n → n ∈ foldA x fs o
  | [], _, _, _, h, _ => by cases h
  | g :: fs, o, f, n, h, e => by
    rcases List.mem_cons.mp h with z | z
    · subst z
      refine foldA_sub (fs := fs) (o := addV o (x f)) ?_
      rw [e]
      exact addV_has
    · exact foldA_has (fs := fs) (o := addV o (x g)) z e
theorem foldA_pre : ∀ {fs : List ν} {o : List Nat} {i n : Nat}, o[i]? = some n → (foldA x fs o)[i]? = some n
  | [], _, _, _, h => h
  | _ :: fs, _, _, _, h => foldA_pre (fs := fs) (addV_pre h)
theorem foldA_len : ∀ {fs : List ν} {o : List Nat}, o.length ≤ (foldA x fs o).length
  | [], _ => Nat.le_refl _
  | _ :: fs, _ => Nat.le_trans addV_len (foldA_len (fs := fs))
theorem foldA_snoc {fs : List ν} {o : List Nat} {f : ν} : foldA x (fs ++ [f]) o = addV (foldA x fs o) (x f) := by
  unfold foldA
  rw [List.foldl_append]
  rfl
end
/-- a nodup list below c has at most c items -/
theorem nd_len : ∀ {c : Nat} {l : List Nat}, l.Nodup → (∀ x ∈ l, x < c) → l.length ≤ c
  | 0, l, _, h => by
    cases l with
    | nil => exact Nat.le_refl _
    | cons a r => exact absurd (h a (List.mem_cons_self ..)) (Nat.not_lt_zero _)
  | c + 1, l, hn, h => by
    have h2 := nd_len (c := c) (l := l.erase c) (hn.erase c) (fun x hx => by
      have hx2 := (hn.mem_erase_iff).mp hx
      have := h x hx2.2
      omega)
    have h3 := List.length_erase (a := c) (l := l)
    rw [h3] at h2
    split at h2 <;> omega

/-! ### pairing -/
def OR (R : Nat → Nat → Prop) : ON → ON → Prop
  | none, none => True
  | some a, some b => R a b
  | _, _ => False
theorem OR.mono {R S : Nat → Nat → Prop} (h : ∀ a b, R a b → S a b) : ∀ {x y : ON}, OR R x y → OR S x y
  | none, none, _ => True.intro
  | some _, some _, q => h _ _ q
  | none, some _, q => q.elim
  | some _, none, q => q.elim
/-- the heaps are alike: a one-to-one pairing of objects that the names and the fields keep -/
structure IsoBy {ν : Type} (val1 val2 : Nat → φ → ON) (fs : List φ) (ns : List ν) (v1 v2 : ν → ON) (R : Nat → Nat → Prop) : Prop where
  fn : ∀ a b b', R a b → R a b' → b = b'
  inj : ∀ a a' b, R a b → R a' b → a = a'
  nm : ∀ n ∈ ns, OR R (v1 n) (v2 n)
  cl : ∀ a b, R a b → ∀ f ∈ fs, OR R (val1 a f) (val2 b f)
def Iso {ν : Type} (val1 val2 : Nat → φ → ON) (fs : List φ) (ns : List ν) (v1 v2 : ν → ON) : Prop := ∃ R, IsoBy val1 val2 fs ns v1 v2 R

def pairB (q : List (Nat × Nat)) : ON → ON → Option (List (Nat × Nat))
  | none, none => some q
  | some a, some b => match q.lookup a with
    | some b' => if b' = b then some q else none
    | none => if b ∈ q.map (·.2) then none else some (q ++ [(a, b)])
  | _, _ => none
theorem lookup_mem {q : List (Nat × Nat)} {a b : Nat} : q.lookup a = some b → (a, b) ∈ q := by
  induction q with
  | nil => intro h; cases h
  | cons p r ih =>
    intro h
    rw [List.lookup_cons] at h
    split at h
    · rename_i e
      have e' : a = p.1 := eq_of_beq e
      have : p.2 = b := Option.some.inj h
      subst this
      subst e'
      exact List.mem_cons_self ..
    · exact List.mem_cons_of_mem _ (ih h)
theorem lookup_not {q : List (Nat × Nat)} {a : Nat} : q.lookup a = none → a ∉ q.map (·.1) := by
  induction q with
  | nil => intro _ h; cases h
  | cons p r ih =>
    intro h
    rw [List.lookup_cons] at h
    split at h
    · cases h
    · rename_i e
      intro hm
      rcases List.mem_cons.mp (by simpa using hm : a ∈ p.1 :: r.map (·.1)) with z | z
      · subst z; simp at e
      · exact ih h z
structure QOk (q : List (Nat × Nat)) : Prop where
  l : (q.map (·.1)).Nodup
  r : (q.map (·.2)).Nodup
theorem QOk.nil : QOk [] := ⟨List.nodup_nil, List.nodup_nil⟩
theorem nd_app {α : Type} {l : List α} {x : α} (h : l.Nodup) (hx : x ∉ l) : (l ++ [x]).Nodup := by
  rw [List.nodup_append]
  refine ⟨h, by simp, fun a ha b hb e => ?_⟩
  simp at hb
  subst hb
  exact hx (e ▸ ha)
theorem pairB_ok {q q' : List (Nat × Nat)} {x y : ON} (h : pairB q x y = some q') (ok : QOk q) : QOk q' ∧ (∀ p ∈ q, p ∈ q') ∧ OR (fun a b => (a, b) ∈ q') x y ∧ (∀ R : Nat → Nat → Prop, OR R x y → (∀ p ∈ q, R p.1 p.2) → ∀ p ∈ q', R p.1 p.2) ∧
    (q' = q ∨ ∃ a b, x = some a ∧ y = some b ∧ q' = q ++ [(a, b)]) := by
  cases x with
  | none =>
    cases y with
    | none =>
      have e : q = q' := Option.some.inj h
      subst e
      exact ⟨ok, fun _ z => z, True.intro, fun R _ z => z, .inl rfl⟩
    | some b => cases h
  | some a =>
    cases y with
    | none => cases h
    | some b =>
      unfold pairB at h
      simp only at h
      split at h
      · rename_i b' e
        split at h
        · rename_i e2
          subst e2
          have e3 : q = q' := Option.some.inj h
          subst e3
          exact ⟨ok, fun _ z => z, lookup_mem e, fun R _ z => z, .inl rfl⟩
        · cases h
      · rename_i e
        split at h
        · cases h
        · rename_i hb
          have e3 : q ++ [(a, b)] = q' := Option.some.inj h
          subst e3
          refine ⟨⟨?_, ?_⟩, fun _ z => List.mem_append_left _ z, List.mem_append_right _ (List.mem_singleton.mpr rfl), fun R hr hq p hp => ?_, .inr ⟨a, b, rfl, rfl, rfl⟩⟩
          · rw [List.map_append]
            exact nd_app ok.l (lookup_not e)
          · rw [List.map_append]
            exact nd_app ok.r hb
          · rcases List.mem_append.mp hp with hp | hp
            · exact hq p hp
            · rw [List.mem_singleton.mp hp]
              exact hr
theorem pairB_no {q : List (Nat × Nat)} {x y : ON} (h : pairB q x y = none) {R : Nat → Nat → Prop} (fn : ∀ a b b', R a b → R a b' → b = b') (inj : ∀ a a' b, R a b → R a' b → a = a') (hq : ∀ p ∈ q, R p.1 p.2) : ¬ OR R x y := by
  intro hr
  cases x with
  | none =>
    cases y with
    | none => cases h
    | some b => exact hr
  | some a =>
    cases y with
    | none => exact hr
    | some b =>
      have hr' : R a b := hr
      unfold pairB at h
      simp only at h
      split at h
      · rename_i b' e
        split at h
        · cases h
        · rename_i e2
          exact e2 (fn _ _ _ (hq _ (lookup_mem e)) hr')
      · rename_i e
        split at h
        · rename_i hb
          obtain ⟨p, hp, e2⟩ := List.mem_map.mp hb
          have h1 := hq p hp
          rw [e2] at h1
          have h2 := inj _ _ _ h1 hr'
          exact lookup_not e (List.mem_map.mpr ⟨p, hp, h2⟩)
        · cases h
theorem QOk.fn {q : List (Nat × Nat)} (h : QOk q) {a b b' : Nat} (h1 : (a, b) ∈ q) (h2 : (a, b') ∈ q) : b = b' := by
  have hl := h.l
  clear h
  induction q with
  | nil => cases h1
  | cons p r ih =>
    rw [List.map_cons, List.nodup_cons] at hl
    rcases List.mem_cons.mp h1 with e1 | m1 <;> rcases List.mem_cons.mp h2 with e2 | m2
    · rw [← e1] at e2
      exact (congrArg Prod.snd e2).symm
    · exact absurd (List.mem_map.mpr ⟨_, m2, by rw [← e1]⟩) hl.1
    · exact absurd (List.mem_map.mpr ⟨_, m1, by rw [← e2]⟩) hl.1
    · exact ih m1 m2 hl.2
theorem QOk.inj {q : List (Nat × Nat)} (h : QOk q) {a a' b : Nat} (h1 : (a, b) ∈ q) (h2 : (a', b) ∈ q) : a = a' := by
  have hl := h.r
  clear h
  induction q with
  | nil => cases h1
  | cons p r ih =>
    rw [List.map_cons, List.nodup_cons] at hl
    rcases List.mem_cons.mp h1 with e1 | m1 <;> rcases List.mem_cons.mp h2 with e2 | m2
    · rw [← e1] at e2
      exact (congrArg Prod.fst e2).symm
    · exact absurd (List.mem_map.mpr ⟨_, m2, by rw [← e1]⟩) hl.1
    · exact absurd (List.mem_map.mpr ⟨_, m1, by rw [← e2]⟩) hl.1
    · exact ih m1 m2 hl.2

/-! ### shapes -/
def posN (r : List Nat) : ON → ON
  | none => none
  | some n => some (r.idxOf n)
def nmS (r : List Nat) (roots : List ON) : List ON := roots.map (posN r)
def obS (val : Nat → φ → ON) (fs : List φ) (r : List Nat) : List (List ON) := r.map fun n => fs.map fun f => posN r (val n f)
structure Fin' (val : Nat → φ → ON) (fs : List φ) (roots : List ON) (c : Nat) (r : List Nat) : Prop where
  runs : Runs val fs 0 (roots.foldl addV []) r
  nd : r.Nodup
  bd : ∀ x ∈ r, x < c
  rts : ∀ v ∈ roots, ∀ n, v = some n → n ∈ r
  cl : ∀ x ∈ r, ∀ f ∈ fs, ∀ m, val x f = some m → m ∈ r

/-- item by item -/
inductive P2 (R : Nat → Nat → Prop) : List Nat → List Nat → Prop
  | nil : P2 R [] []
  | cons {a b : Nat} {l m : List Nat} (h : R a b) (t : P2 R l m) : P2 R (a :: l) (b :: m)
theorem P2.len {R : Nat → Nat → Prop} : ∀ {l m : List Nat}, P2 R l m → l.length = m.length
  | _, _, .nil => rfl
  | _, _, .cons _ t => congrArg Nat.succ t.len
theorem P2.snoc {R : Nat → Nat → Prop} {a b : Nat} (h : R a b) : ∀ {l m : List Nat}, P2 R l m → P2 R (l ++ [a]) (m ++ [b])
  | _, _, .nil => .cons h .nil
  | _, _, .cons q t => .cons q (t.snoc h)
theorem P2.get {R : Nat → Nat → Prop} : ∀ {l m : List Nat} {i a : Nat}, P2 R l m → l[i]? = some a → ∃ b, m[i]? = some b ∧ R a b
  | _, _, _, _, .nil, h => by cases h
  | _, _, 0, _, .cons q _, h => by
    have := Option.some.inj h
    subst this
    exact ⟨_, rfl, q⟩
  | _, _, i + 1, _, .cons _ t, h => by
    obtain ⟨b, hb, hr⟩ := t.get (i := i) (by simpa using h)
    exact ⟨b, by simpa using hb, hr⟩
theorem P2.mem_iff {R : Nat → Nat → Prop} (fn : ∀ a b b', R a b → R a b' → b = b') (inj : ∀ a a' b, R a b → R a' b → a = a') {a b : Nat} (h : R a b) : ∀ {l m : List Nat}, P2 R l m → (a ∈ l ↔ b ∈ m)
  | _, _, .nil => by simp
  | _, _, .cons (a := x) (b := y) q t => by
    have ih := t.mem_iff fn inj h
    simp only [List.mem_cons]
    constructor
    · rintro (e | e)
      · subst e; exact .inl (fn _ _ _ h q)
      · exact .inr (ih.mp e)
    · rintro (e | e)
      · subst e; exact .inl (inj _ _ _ h q)
      · exact .inr (ih.mpr e)
theorem P2.idx {R : Nat → Nat → Prop} (fn : ∀ a b b', R a b → R a b' → b = b') (inj : ∀ a a' b, R a b → R a' b → a = a') {a b : Nat} (h : R a b) : ∀ {l m : List Nat}, P2 R l m → l.idxOf a = m.idxOf b
  | _, _, .nil => rfl
  | _, _, .cons (a := x) (b := y) q t => by
    have ih := t.idx fn inj h
    rw [List.idxOf_cons, List.idxOf_cons]
    by_cases e : x = a
    · subst e
      have : b = y := fn _ _ _ h q
      subst this
      simp
    · have e2 : ¬ y = b := fun z => by
        subst z
        exact e (inj _ _ _ q h)
      have b1 : (x == a) = false := beq_eq_false_iff_ne.mpr e
      have b2 : (y == b) = false := beq_eq_false_iff_ne.mpr e2
      rw [ih, b1, b2]
theorem P2.addV {R : Nat → Nat → Prop} (fn : ∀ a b b', R a b → R a b' → b = b') (inj : ∀ a a' b, R a b → R a' b → a = a') {l m : List Nat} (t : P2 R l m) : ∀ {x y : ON}, OR R x y → P2 R (addV l x) (addV m y)
  | none, none, _ => t
  | none, some _, h => h.elim
  | some _, none, h => h.elim
  | some a, some b, h => by
    have h' : R a b := h
    have e := t.mem_iff fn inj h'
    by_cases ha : a ∈ l
    · rw [addV_in ha, addV_in (e.mp ha)]
      exact t
    · have hb : ¬ b ∈ m := fun z => ha (e.mpr z)
      rw [addV_out ha, addV_out hb]
      exact t.snoc h'
theorem P2.fold {ν : Type} {R : Nat → Nat → Prop} (fn : ∀ a b b', R a b → R a b' → b = b') (inj : ∀ a a' b, R a b → R a' b → a = a') (x y : ν → ON) : ∀ (fs : List ν) {l m : List Nat}, (∀ f ∈ fs, OR R (x f) (y f)) → P2 R l m →
    P2 R (fs.foldl (fun o f => K5.addV o (x f)) l) (fs.foldl (fun o f => K5.addV o (y f)) m)
  | [], _, _, _, t => t
  | f :: fs, _, _, h, t => P2.fold fn inj x y fs (fun g hg => h g (List.mem_cons_of_mem _ hg)) (t.addV fn inj (h f (List.mem_cons_self ..)))
theorem Runs.lock {val1 val2 : Nat → φ → ON} {fs : List φ} {R : Nat → Nat → Prop} (fn : ∀ a b b', R a b → R a b' → b = b') (inj : ∀ a a' b, R a b → R a' b → a = a') (cl : ∀ a b, R a b → ∀ f ∈ fs, OR R (val1 a f) (val2 b f))
    {i : Nat} {o r : List Nat} (h : Runs val1 fs i o r) : ∀ {o2 r2 : List Nat}, Runs val2 fs i o2 r2 → P2 R o o2 → P2 R r r2 := by
  induction h with
  | @stop i o hl =>
    intro o2 r2 h2 t
    cases h2 with
    | stop _ => exact t
    | step e _ =>
      have := (List.getElem?_eq_some_iff.mp e).1
      rw [← t.len] at this
      omega
  | @step i o r n e _ ih =>
    intro o2 r2 h2 t
    cases h2 with
    | stop hl =>
      have := (List.getElem?_eq_some_iff.mp e).1
      rw [t.len] at this
      omega
    | @step _ _ _ n2 e2 h2 =>
      obtain ⟨b, hb, hr⟩ := t.get e
      rw [e2] at hb
      have := Option.some.inj hb
      subst this
      exact ih h2 (P2.fold fn inj _ _ fs (cl _ _ hr) t)
theorem posN_rel {R : Nat → Nat → Prop} (fn : ∀ a b b', R a b → R a b' → b = b') (inj : ∀ a a' b, R a b → R a' b → a = a') {l m : List Nat} (t : P2 R l m) : ∀ {x y : ON}, OR R x y → posN l x = posN m y
  | none, none, _ => rfl
  | none, some _, h => h.elim
  | some _, none, h => h.elim
  | some _, some _, h => congrArg some (t.idx fn inj h)
theorem P2.mapEq {β : Type} {R : Nat → Nat → Prop} {f g : Nat → β} (h : ∀ a b, R a b → f a = g b) : ∀ {l m : List Nat}, P2 R l m → l.map f = m.map g
  | _, _, .nil => rfl
  | _, _, .cons q t => by rw [List.map_cons, List.map_cons, h _ _ q, t.mapEq h]
section
variable {ν : Type} {val1 val2 : Nat → φ → ON} {fs : List φ} {ns : List ν} {v1 v2 : ν → ON} {c1 c2 : Nat} {r1 r2 : List Nat}
theorem iso_shape (F1 : Fin' val1 fs (ns.map v1) c1 r1) (F2 : Fin' val2 fs (ns.map v2) c2 r2) (I : Iso val1 val2 fs ns v1 v2) : nmS r1 (ns.map v1) = nmS r2 (ns.map v2) ∧ obS val1 fs r1 = obS val2 fs r2 := by
  obtain ⟨R, I⟩ := I
  have t0 : P2 R ((ns.map v1).foldl addV []) ((ns.map v2).foldl addV []) := by
    rw [List.foldl_map, List.foldl_map]
    exact P2.fold I.fn I.inj v1 v2 ns I.nm .nil
  have t := F1.runs.lock I.fn I.inj I.cl F2.runs t0
  constructor
  · unfold nmS
    rw [List.map_map, List.map_map]
    exact List.map_congr_left fun n hn => posN_rel I.fn I.inj t (I.nm n hn)
  · unfold obS
    exact t.mapEq fun a b h => List.map_congr_left fun f hf => posN_rel I.fn I.inj t (I.cl a b h f hf)
theorem map_eq_at {α β γ : Type} {f : α → γ} {g : β → γ} : ∀ {l : List α} {m : List β}, l.map f = m.map g → ∀ {i : Nat} {a : α} {b : β}, l[i]? = some a → m[i]? = some b → f a = g b
  | [], _, _, _, _, _, h, _ => by cases h
  | _ :: _, [], _, _, _, _, _, h => by cases h
  | x :: l, y :: m, e, i, a, b, h1, h2 => by
    rw [List.map_cons, List.map_cons] at e
    injection e with e1 e2
    cases i with
    | zero =>
      have h1 := Option.some.inj h1
      have h2 := Option.some.inj h2
      subst h1
      subst h2
      exact e1
    | succ i => exact map_eq_at e2 (by simpa using h1) (by simpa using h2)
theorem map_eq_mem {α γ : Type} {f g : α → γ} : ∀ {l : List α}, l.map f = l.map g → ∀ a ∈ l, f a = g a
  | [], _, _, h => by cases h
  | x :: l, e, a, h => by
    rw [List.map_cons, List.map_cons] at e
    injection e with e1 e2
    rcases List.mem_cons.mp h with z | z
    · subst z; exact e1
    · exact map_eq_mem e2 a z
theorem idx_get {l : List Nat} {n : Nat} (h : n ∈ l) : l[l.idxOf n]? = some n := by
  have hl := List.idxOf_lt_length_iff.mpr h
  rw [List.getElem?_eq_getElem hl, List.getElem_idxOf hl]
/-- the pairing that equal shapes give -/
def RS (r1 r2 : List Nat) (a b : Nat) : Prop := ∃ i : Nat, r1[i]? = some a ∧ r2[i]? = some b
theorem nd_at {l : List Nat} (h : l.Nodup) {i j a : Nat} (h1 : l[i]? = some a) (h2 : l[j]? = some a) : i = j := by
  obtain ⟨l1, e1⟩ := List.getElem?_eq_some_iff.mp h1
  obtain ⟨l2, e2⟩ := List.getElem?_eq_some_iff.mp h2
  exact (List.getElem_inj (i := i) (j := j) (h₀ := l1) (h₁ := l2) h).mp (e1.trans e2.symm)
theorem or_of_pos {x y : ON} (e : posN r1 x = posN r2 y) (hx : ∀ n, x = some n → n ∈ r1) (hy : ∀ n, y = some n → n ∈ r2) : OR (RS r1 r2) x y := by
  cases x with
  | none =>
    cases y with
    | none => exact True.intro
    | some b => cases e
  | some a =>
    cases y with
    | none => cases e
    | some b =>
      have e2 : r1.idxOf a = r2.idxOf b := Option.some.inj e
      exact ⟨r1.idxOf a, idx_get (hx _ rfl), e2 ▸ idx_get (hy _ rfl)⟩
theorem shape_iso (F1 : Fin' val1 fs (ns.map v1) c1 r1) (F2 : Fin' val2 fs (ns.map v2) c2 r2) (e1 : nmS r1 (ns.map v1) = nmS r2 (ns.map v2)) (e2 : obS val1 fs r1 = obS val2 fs r2) : Iso val1 val2 fs ns v1 v2 := by
  refine ⟨RS r1 r2, ⟨?_, ?_, ?_, ?_⟩⟩
  · rintro a b b' ⟨i, h1, h2⟩ ⟨j, h3, h4⟩
    have := nd_at F1.nd h1 h3
    subst this
    rw [h2] at h4
    exact Option.some.inj h4
  · rintro a a' b ⟨i, h1, h2⟩ ⟨j, h3, h4⟩
    have := nd_at F2.nd h2 h4
    subst this
    rw [h1] at h3
    exact Option.some.inj h3
  · intro n hn
    unfold nmS at e1
    rw [List.map_map, List.map_map] at e1
    have e := map_eq_mem e1 n hn
    exact or_of_pos e (fun m hm => F1.rts _ (List.mem_map.mpr ⟨n, hn, rfl⟩) m hm) (fun m hm => F2.rts _ (List.mem_map.mpr ⟨n, hn, rfl⟩) m hm)
  · rintro a b ⟨i, h1, h2⟩ f hf
    have e := map_eq_mem (map_eq_at e2 h1 h2) f hf
    exact or_of_pos e (fun m hm => F1.cl a (List.mem_of_getElem? h1) f hf m hm) (fun m hm => F2.cl b (List.mem_of_getElem? h2) f hf m hm)
end
end K5
end partK5Math
section partK5Top
set_option Elab.async false
set_option linter.all false
set_option maxRecDepth 100000
set_option maxHeartbeats 4000000
namespace K5
open PySem PySem.Spec PyProof.Rows L2
/-! ### the text by places -/
def top (i : Nat) : Stmt := PySem.Challenge.pw_thawedwrites_k05_whole_equal_heaps.main.body.getD i (.Pass ⟨0, 0, 0, 0⟩)
abbrev sIsInteger : Stmt := top 7
abbrev sIsWord : Stmt := top 8
abbrev sIsWordList : Stmt := top 9
abbrev sIsNumber : Stmt := top 10
abbrev sIsObject : Stmt := top 14
abbrev sCheckObjects : Stmt := top 15
abbrev sCheckNames : Stmt := top 16
abbrev sMeeting : Stmt := top 17
abbrev sRenumbered : Stmt := top 18
abbrev sHeap : Stmt := top 19
abbrev sInit : Stmt := inClass (top 19) 0
abbrev sShape : Stmt := inClass (top 19) 1
abbrev sEq : Stmt := inClass (top 19) 2
abbrev sObjects : Stmt := inClass (top 19) 7
abbrev sNames : Stmt := inClass (top 19) 8
abbrev sDraw : Stmt := top 21
abbrev sPick : Stmt := top 22
abbrev sWord : Stmt := top 23
abbrev sWords : Stmt := top 24
abbrev sValue : Stmt := top 25
abbrev sLObjects : Stmt := top 26
abbrev sLNames : Stmt := top 27
abbrev sPair : Stmt := top 28
abbrev sAlike : Stmt := top 29
abbrev sMoved : Stmt := top 30
abbrev sSecond : Stmt := top 31
abbrev sChange : Stmt := top 32
abbrev sLaw : Stmt := top 33
abbrev FnP (K : PySem.W.Frag) (x q : Str) (st : Stmt) (f : Addr) (fd : FuncData) : Prop := FunD K x q (defArgs st) (defBody st) (defScope st) [] [] f fd
/-! ### the head's facts -/
def dG (x : Str) (st : Stmt) : He.DefD := ⟨(x, none), x, x, defArgs st, defBody st, defScope st, [], []⟩
def dM (m q : Str) (st : Stmt) : He.DefD := ⟨("Heap", some m), m, q, defArgs st, defBody st, defScope st, [], []⟩
def fn : List He.DefD := [dG "is_integer" sIsInteger, dG "is_word" sIsWord, dG "is_word_list" sIsWordList, dG "is_number_below" sIsNumber, dG "is_object" sIsObject,
  dG "check_objects" sCheckObjects, dG "check_names" sCheckNames, dG "meeting_numbers" sMeeting, dG "renumbered" sRenumbered,
  dM "__init__" "Heap.__init__" sInit, dM "reckoned_shape" "Heap.reckoned_shape" sShape, dM "__eq__" "Heap.__eq__" sEq, dM "objects" "Heap.objects" sObjects, dM "names" "Heap.names" sNames,
  dG "_law_draw" sDraw, dG "_law_pick" sPick, dG "_law_word" sWord, dG "_law_words" sWords, dG "_law_value" sValue, dG "_law_objects" sLObjects, dG "_law_names" sLNames,
  dG "_law_pair" sPair, dG "_law_alike" sAlike, dG "_law_moved" sMoved, dG "_law_second" sSecond, dG "_law_change" sChange, dG "law" sLaw]
def fa : List He.Fa := [.glo "is_integer", .glo "is_word", .glo "is_word_list", .glo "is_number_below", .glo "is_object", .glo "check_objects", .glo "check_names", .glo "meeting_numbers", .glo "renumbered", .glo "Heap",
  .glo "_law_draw", .glo "_law_pick", .glo "_law_word", .glo "_law_words", .glo "_law_value", .glo "_law_objects", .glo "_law_names", .glo "_law_pair", .glo "_law_alike", .glo "_law_moved", .glo "_law_second", .glo "_law_change", .glo "law",
  .str "LETTERS" "abcdefghijklmnopqrstuvwxyz", .int "LONGEST" 8, .int "MOST_OBJECTS" 200, .int "MOST_NAMES" 6,
  .free "len", .free "int", .free "isinstance", .free "str", .free "bool", .free "list", .free "tuple", .free "dict", .free "range", .free "sorted", .free "enumerate",
  .cls "Heap", .noat "Heap" "fields", .noat "Heap" "held", .noat "Heap" "holders", .noat "Heap" "shape",
  .meth "Heap" "reckoned_shape", .meth "Heap" "__eq__", .meth "Heap" "objects", .meth "Heap" "names", .mkr "Heap"]
/-- what isinstance and == ask of the class Heap -/
def xb (K : PySem.W.Frag) : Bool :=
  decide (PySem.W.findIn K (.ref (He.ga K "Heap")) "__class__" = some (some (.builtin "object.__class__"))) &&
  (decide (PySem.W.specialIn K (.builtin "object.__class__") "__get__" = some (some (.builtin "getset_descriptor.__get__"))) &&
  (decide (PySem.W.takesIn K (.builtin "object.__class__") = some true) &&
  (decide (PySem.W.mroIn K (He.ga K "Heap") (.type "object") = some true) &&
  (["NoneType", "str", "int", "list", "dict"].all fun t => decide (PySem.W.kitOne K (.type t) (.ref (He.ga K "Heap")) = some false) && PySem.W.notFirst K (He.ga K "Heap") (.type t)))))
abbrev AlX : Type := He.AlD × Bool
def obsX (K : PySem.W.Frag) : AlX := (He.obsD fa fn K, xb K)
def valX : AlX := (He.valD fn, true)
structure Says (K : PySem.W.Frag) : Prop where
  d : He.SaysD fa fn K
  x : xb K = true
def obsXG (n : Nat) (g : Addr → Option Obj) : AlX := obsX (He.frG g (He.asD g n))
theorem says_of {K : PySem.W.Frag} (e : obsX K = valX) : Says K := ⟨congrArg (fun z : AlX => z.1) e, congrArg (fun z : AlX => z.2) e⟩
def hook (n : Nat) : PySem.W.Hook where
  α := AlX
  obs := fun s => obsXG n s.heap.get?
  val := fun _ => valX
  says := fun _ h => ∃ K : PySem.W.Frag, K.In h ∧ Says K
  of := fun _ _ e => ⟨_, He.frG_in, says_of e⟩
  keeps := fun _ _ _ ⟨K, hK, c⟩ k => ⟨K, PySem.W.Frag.In.keeps hK k, c⟩
theorem obsXG_eq {n : Nat} {g : Addr → Option Obj} {s : Shared} (h : ∀ a, g a = s.heap.get? a) : obsXG n g = (hook n).obs s := by
  have e : g = s.heap.get? := funext h
  rw [e] <;> rfl
end K5
end partK5Top
section partK5Head
set_option Elab.async false
set_option linter.all false
set_option maxRecDepth 100000
set_option maxHeartbeats 0
namespace K5
open PySem PySem.Spec PyProof.Rows L2
abbrev R : PySem.W.OpenRow := PySem.W.OpenLaw.row PySem.Challenge.rw_thawedwrites_k05_whole_equal_heaps
abbrev hk : PySem.W.Hook := hook 4
def ob (s : PySem.W.SharedT) : AlX := obsXG 4 (HandSHeadRun.getT s)
theorem ob_eq (s : PySem.W.SharedT) : ob s = hk.obs s.abs := obsXG_eq (HandSHeadRun.getT_eq s)
def loose : List PySem.Str := ["ThawError", "InvalidHeap", "InvalidArgument", "LETTERS", "LONGEST", "is_integer", "is_word", "is_word_list", "is_number_below", "MOST_OBJECTS", "MOST_NAMES", "is_object", "check_objects", "check_names",
  "meeting_numbers", "renumbered", "Heap", "_law_draw", "_law_pick", "_law_word", "_law_words", "_law_value", "_law_objects", "_law_names", "_law_pair", "_law_alike", "_law_moved", "_law_second", "_law_change"]
theorem run (w : World) : HandSHeadRun.RunEq R (PySem.W.view R.prog [33]) hk ob 4000 loose w := by
  intro os
  kernel_rfl
end K5
end partK5Head
section partK5Rules
set_option Elab.async false
set_option linter.all false
set_option maxRecDepth 100000
set_option maxHeartbeats 4000000
/-! Rules that the layer lacks: sorted(texts, reverse=b), text * int, == by an own __eq__ with any answer. -/
namespace K5
open PySem PySem.Spec PyProof.Rows L2
section
variable {X : Cx}
theorem each_strs : ∀ {us : List Value} {xs : List Str}, StrsAre us xs → PySem.W.EachIs (fun v x => ∃ t, v = Value.str x t) us xs
  | _, _, .nil => .nil
  | _, _, .cons x t h => .cons ⟨t, rfl⟩ (each_strs h)
theorem strs_each : ∀ {us : List Value} {xs : List Str}, PySem.W.EachIs (fun v x => ∃ t, v = Value.str x t) us xs → StrsAre us xs
  | _, _, .nil => .nil
  | _, _, .cons ⟨t, e⟩ h => by
    subst e
    exact .cons _ t (strs_each h)
def rSortedSK (K : PySem.W.Frag) (zs0 : List V) : List V → List V → Hp → VK → Prop := fun vs zs H Q => ∃ (a : Addr) (xs : List Str), vs = [V.ref a] ∧ zs = zs0 ∧ SqL K H a (xs.map V.str) ∧
  ∀ (ys : List Str) (p : Addr), ys.Perm xs → H p = none → Q (.ref p) (upd H p (.lst (ys.map V.str)))
theorem cr_sortedSRev {b : Bool} (hu : X.A.units + 2 < cLine) : CallRK X (.builtin "sorted") [Str.ofString "reverse"] (rSortedSK X.K [.bl b]) := by
  intro pins s σ H vs zs us ws Q I r rz h
  obtain ⟨a, xs, rfl, rfl, hs, q⟩ := h
  obtain rfl := Vals.ref1 r
  obtain ⟨w1, rfl, e1⟩ := vals1 rz
  obtain rfl : w1 = Value.bool b := e1
  obtain ⟨its, rv, hl, hz⟩ := I.list hs
  have hsA := rv.strs
  have hlen0 := rv.length
  rw [List.length_map] at hlen0 hz
  refine PySem.W.sorted_rev_data (enc := PyData.str) (bs := xs) (R := fun v x => ∃ t, v = Value.str x t) hl.isList (each_strs hsA) ((each_strs hsA).mono fun v x h => by
    obtain ⟨t, e⟩ := h
    subst e
    exact ⟨_, Reads.str x t⟩) (PySem.W.AllAlike.of fun _ _ => rfl)
    (PySem.W.Sortable.others fun _ => ⟨fun z => (by cases z), fun _ z => (by cases z)⟩) hz (fun x _ => by show X.A.units + 2 + 0 < cLine; omega) fun out ho he => ?_
  · have hp : (xs.mergeSort (PySem.W.dataLe b PyData.str)).Perm xs := List.mergeSort_perm _ _
    have hA := strs_each he
    obtain ⟨ep, he'⟩ := PyProof.Rows.sortedAll_at s.heap its (List.toArray out)
    have hlen : ((xs.mergeSort (PySem.W.dataLe b PyData.str)).map V.str).length ≤ sizeLine := by rw [List.length_map, hp.length_eq]; exact hz
    exact ⟨.ref _, upd H (s.heap.objs.size + 1) (.lst ((xs.mergeSort (PySem.W.dataLe b PyData.str)).map V.str)), I.laid (t' := s.toks) (fun _ _ => PyProof.Rows.sortedAll_old) (Nat.le_succ _) ⟨hlen, out, ep, vals_of_strs hA, he'⟩, rfl,
      q _ _ hp (I.hok.fresh (Nat.le_succ _))⟩
/-- text * int -/
theorem op_strmul : OpR X (binaryOp .Mult) (fun x y H Q => ∃ z n, x = .str z ∧ y = .int n ∧ MulOk z n ∧ Q (.str (Txt.mul z n)) H) := by
  intro pins s σ H x y v u Q I rx ry h
  obtain ⟨z, n, rfl, rfl, hm, q⟩ := h
  obtain ⟨t, rfl⟩ := rx
  obtain ⟨t', rfl⟩ := ry
  exact SB.mul hm fun t' k => ⟨.str (Txt.mul z n), H, I.tok k, ⟨_, rfl⟩, q⟩
/-- x == y, x an instance of the class at C whose own __eq__ is the def at f; y anything whose type is known and not below C -/
def rOwnEq (K : PySem.W.Frag) (C : Addr) (sp : Sp) (E : XK) : R2 := fun x y H Q => ∃ a dx fs t, x = .ref a ∧ H a = some (.ins C dx fs) ∧ TyX K H y t ∧ PySem.W.notFirst K C t = true ∧ sp [x, y] H Q E
theorem cmpback {v : V} {u : Value} {s' : Shared} {Q : Value → Shared → Prop} (r : RelV v u) (q : Q u s') : PySem.W.CmpBack Q u s' := by
  cases v with
  | non => cases r; exact q
  | bl b => cases r; exact q
  | int i => obtain ⟨t, rfl⟩ := r; exact q
  | str x => obtain ⟨t, rfl⟩ := r; exact q
  | byt b => obtain ⟨t, rfl⟩ := r; exact q
  | flt b => obtain ⟨t, rfl⟩ := r; exact q
  | ref a => cases r; exact q
  | ty n => cases r; exact q
theorem op_ownEq {CX : CXT} {k : Nat} {C f : Addr} {fd : FuncData} {ps : List Str} {sp : Sp} {E : XK} (F : FnOk X.prog X.w X.K X.mg X.base CX k f fd ps sp) (hr : Room k X.A)
    (hs : PySem.W.findIn X.K (.ref C) "__eq__" = some (some (.ref f))) (hf : PySem.W.isFn X.K (.ref f) = true) (hb : Binds X.K fd ps []) (hx : Passes CX X E) : OpR X (compareOp .Eq) (rOwnEq X.K C sp E) := by
  intro pins s σ H x y v u Q I rx ry h
  obtain ⟨a, dx, fs, t, rfl, ha, ty, hn, q⟩ := h
  cases rx
  obtain ⟨mA, J, _⟩ := ins_get I.hok ha
  obtain ⟨od, J, _⟩ := J.look
  obtain ⟨m, hF⟩ := I.fr
  obtain ⟨P, Z, p, _⟩ := kit_of I ry ty
  show wpAny (model X.prog X.w) X.A (richCompare .Eq (.ref a) u) (EP X pins σ Q) X.xe s
  refine PySem.W.cmp_K (op := .Eq) (tb := t) hr.units0 hF I.ok.mod.kin J (Z.ty _ _ I.kIn p) hn hs hf ?_
  refine wpAny_mono (run_fn (us := [.ref a, u]) (vs := [.ref a, y]) (dvs := []) (ds := []) F hr hb .nil hx I (.cons rfl (.cons ry .nil)) (by rw [List.append_nil]; exact q)) (fun w s' z => ?_) fun _ _ x => x
  obtain ⟨z', H', I', rz, qz⟩ := z
  exact cmpback rz ⟨z', H', I', rz, qz⟩
end
end K5
end partK5Rules
section partK5Data
set_option Elab.async false
set_option linter.all false
set_option maxRecDepth 100000
set_option maxHeartbeats 4000000
/-! The data of the walk: dicts by keys and values, numbers, pairs, shapes, the pool. -/
namespace K5
open PySem PySem.Spec PyProof.Rows L2
def optV : ON → V
  | none => .non
  | some n => .int (n : Int)
theorem optV_inj : ∀ {x y : ON}, optV x = optV y → x = y
  | none, none, _ => rfl
  | none, some _, h => by cases h
  | some _, none, h => by cases h
  | some a, some b, h => by
    have : (a : Int) = (b : Int) := V.int.inj h
    exact congrArg some (Int.ofNat.inj this)
theorem optV_non {x : ON} : decide (optV x = V.non) = x.isNone := by
  cases x with
  | none => rfl
  | some n => exact decide_eq_false (fun h => by cases h)
theorem optV_flat (x : ON) : flatB (optV x) = true := by cases x <;> rfl
theorem optV_flatV (x : ON) : flatV (optV x) = true := by cases x <;> rfl
/-! ### dicts with text keys -/
def ent (ks : List Str) (vs : List ON) : List (Key × V) := List.zipWith (fun k v => ((Sum.inr k : Key), optV v)) ks vs
def look1 (ks : List Str) (vs : List ON) (k : Str) : ON := match ks, vs with
  | k' :: ks, v :: vs => if k' = k then v else look1 ks vs k
  | _, _ => none
theorem ent_len {ks : List Str} {vs : List ON} (h : vs.length = ks.length) : (ent ks vs).length = ks.length := by
  unfold ent
  rw [List.length_zipWith, h, Nat.min_self]
theorem ent_keys : ∀ {ks : List Str} {vs : List ON}, vs.length = ks.length → (ent ks vs).map (·.1) = ks.map Sum.inr
  | [], [], _ => rfl
  | [], _ :: _, h => by cases h
  | _ :: _, [], h => by cases h
  | k :: ks, v :: vs, h => by
    have ih := ent_keys (ks := ks) (vs := vs) (by simpa using h)
    show (Sum.inr k : Key) :: (ent ks vs).map (·.1) = _
    rw [ih]
    rfl
theorem ent_val : ∀ {ks : List Str} {vs : List ON} {k : Str}, vs.length = ks.length → k ∈ ks → valV (ent ks vs) (Sum.inr k : Key) = some (optV (look1 ks vs k))
  | [], _, _, _, h => by cases h
  | _ :: _, [], _, h, _ => by cases h
  | k' :: ks, v :: vs, k, h, hm => by
    by_cases e : k' = k
    · subst e
      rw [show look1 (k' :: ks) (v :: vs) k' = v from if_pos rfl]
      exact valV_pos (p := ((Sum.inr k' : Key), optV v)) rfl
    · have hm2 : k ∈ ks := (List.mem_cons.mp hm).resolve_left fun z => e z.symm
      rw [show look1 (k' :: ks) (v :: vs) k = look1 ks vs k from if_neg e]
      have ih := ent_val (ks := ks) (vs := vs) (k := k) (by simpa using h) hm2
      rw [← ih]
      exact valV_neg (p := ((Sum.inr k' : Key), optV v)) fun z => e (Sum.inr.inj z)
theorem ent_no : ∀ {ks : List Str} {vs : List ON} {k : Str}, k ∉ ks → valV (ent ks vs) (Sum.inr k : Key) = none
  | [], _, _, _ => rfl
  | _ :: _, [], _, _ => rfl
  | k' :: ks, v :: vs, k, h => by
    have e : ¬ k' = k := fun z => h (z ▸ List.mem_cons_self ..)
    rw [show valV (ent (k' :: ks) (v :: vs)) (Sum.inr k : Key) = valV (ent ks vs) (Sum.inr k : Key) from valV_neg (p := ((Sum.inr k' : Key), optV v)) fun z => e (Sum.inr.inj z)]
    exact ent_no fun z => h (List.mem_cons_of_mem _ z)
theorem look1_mem : ∀ {ks : List Str} {vs : List ON} {k : Str} {n : Nat}, look1 ks vs k = some n → some n ∈ vs
  | [], _, _, _, h => by cases h
  | _ :: _, [], _, _, h => by cases h
  | k' :: ks, v :: vs, k, n, h => by
    by_cases e : k' = k
    · rw [show look1 (k' :: ks) (v :: vs) k = v from if_pos e] at h
      rw [h]
      exact List.mem_cons_self ..
    · rw [show look1 (k' :: ks) (v :: vs) k = look1 ks vs k from if_neg e] at h
      exact List.mem_cons_of_mem _ (look1_mem h)
theorem ent_app {ks : List Str} {vs : List ON} {k : Str} {v : ON} (h : vs.length = ks.length) : ent (ks ++ [k]) (vs ++ [v]) = ent ks vs ++ [((Sum.inr k : Key), optV v)] := by
  unfold ent
  rw [List.zipWith_append h.symm]
  rfl
theorem ent_put_new {ks : List Str} {vs : List ON} {k : Str} {v : ON} (h : vs.length = ks.length) (hk : k ∉ ks) : putK (ent ks vs) (Sum.inr k : Key) (optV v) = ent (ks ++ [k]) (vs ++ [v]) := by
  rw [putK_new _ (ent_no hk), ent_app h]
theorem putK_old {kvs : List (Key × V)} {k : Key} {v w : V} (h : valV kvs k = some w) : putK kvs k v = kvs.map fun kv => if kv.1 = k then (kv.1, v) else kv := by
  unfold putK
  rw [valV_any, h]
  rfl
theorem ent_map {ks : List Str} {vs : List ON} {k : Str} {v : ON} : (ent ks vs).map (fun kv => if kv.1 = (Sum.inr k : Key) then (kv.1, optV v) else kv) = ent ks (List.zipWith (fun k' x => if k' = k then v else x) ks vs) := by
  induction ks generalizing vs with
  | nil => rfl
  | cons k' ks ih =>
    cases vs with
    | nil => rfl
    | cons x vs =>
      show (if (Sum.inr k' : Key) = Sum.inr k then ((Sum.inr k' : Key), optV v) else ((Sum.inr k' : Key), optV x)) :: _ = ((Sum.inr k' : Key), optV (if k' = k then v else x)) :: ent ks _
      rw [← ih]
      by_cases e : k' = k
      · subst e
        rw [if_pos rfl, if_pos rfl]
        rfl
      · rw [if_neg e, if_neg fun z => e (Sum.inr.inj z)]
        rfl
theorem ent_put_old {ks : List Str} {vs : List ON} {k : Str} {v : ON} (h : vs.length = ks.length) (hk : k ∈ ks) : ∃ vs', putK (ent ks vs) (Sum.inr k : Key) (optV v) = ent ks vs' ∧ vs'.length = ks.length ∧ ∀ x ∈ vs', x ∈ vs ∨ x = v := by
  refine ⟨_, by rw [putK_old (ent_val h hk), ent_map], by rw [List.length_zipWith, h, Nat.min_self], fun x hx => ?_⟩
  obtain ⟨i, hi, e⟩ := List.mem_iff_getElem.mp hx
  rw [List.getElem_zipWith] at e
  split at e
  · exact .inr e.symm
  · exact .inl (e ▸ List.getElem_mem ..)
theorem ent_drop (k : Str) : ∀ {ks : List Str} {vs : List ON}, vs.length = ks.length → ∃ ks' vs', dropK (ent ks vs) (Sum.inr k : Key) = ent ks' vs' ∧ vs'.length = ks'.length ∧ ks'.Sublist ks ∧ ∀ x ∈ vs', x ∈ vs
  | [], [], _ => ⟨[], [], rfl, rfl, .slnil, fun _ h => h⟩
  | [], _ :: _, h => by cases h
  | _ :: _, [], h => by cases h
  | k' :: ks, v :: vs, h => by
    obtain ⟨ks', vs', e, l, s, m⟩ := ent_drop k (ks := ks) (vs := vs) (by simpa using h)
    by_cases z : k' = k
    · subst z
      refine ⟨ks', vs', ?_, l, .cons _ s, fun x hx => List.mem_cons_of_mem _ (m x hx)⟩
      rw [← e]
      exact dropK_pos (p := ((Sum.inr k' : Key), optV v)) rfl
    · refine ⟨k' :: ks', v :: vs', ?_, congrArg Nat.succ l, s.cons_cons _, fun x hx => ?_⟩
      · show _ = ((Sum.inr k' : Key), optV v) :: ent ks' vs'
        rw [← e]
        exact dropK_neg (p := ((Sum.inr k' : Key), optV v)) fun q => z (Sum.inr.inj q)
      · rcases List.mem_cons.mp hx with q | q
        · exact q ▸ List.mem_cons_self ..
        · exact List.mem_cons_of_mem _ (m x q)
theorem ent_flat {ks : List Str} {vs : List ON} {p : Key × V} (h : p ∈ ent ks vs) : flatB p.2 = true ∧ ∃ k ∈ ks, p.1 = Sum.inr k := by
  unfold ent at h
  obtain ⟨i, hi, e⟩ := List.mem_iff_getElem.mp h
  rw [List.getElem_zipWith] at e
  subst e
  exact ⟨optV_flat _, _, List.getElem_mem .., rfl⟩
/-- a look-up of a pair that stands in a dict of unlike keys -/
theorem valV_self : ∀ {kvs : List (Key × V)}, (kvs.map (·.1)).Nodup → ∀ p ∈ kvs, valV kvs p.1 = some p.2
  | [], _, _, h => by cases h
  | q :: r, hn, p, h => by
    rw [List.map_cons, List.nodup_cons] at hn
    rcases List.mem_cons.mp h with e | e
    · subst e
      exact valV_pos rfl
    · rw [valV_neg fun z => hn.1 (List.mem_map.mpr ⟨p, e, z.symm⟩)]
      exact valV_self hn.2 p e
theorem nd_inr {ks : List Str} (h : ks.Nodup) : (ks.map (Sum.inr : Str → Key)).Nodup := by
  unfold List.Nodup at h ⊢
  rw [List.pairwise_map]
  exact h.imp fun hab e => hab (Sum.inr.inj e)
/-! ### words -/
def Word (z : Str) : Prop := 1 ≤ z.cps.size ∧ z.cps.size ≤ 8 ∧ ∀ c ∈ z.cps.toList, 97 ≤ c ∧ c < 123
theorem Word.ok {z : Str} (h : Word z) : PyData.strOk z = true := by
  unfold PyData.strOk
  rw [← Array.all_toList, List.all_eq_true]
  intro c hc
  have := (h.2.2 c hc).2
  exact decide_eq_true (by omega)
/-! ### numbers by meeting -/
def numD (o : List Nat) : List (Key × V) := o.zipIdx.map fun p => ((Sum.inl (p.1 : Int) : Key), V.int (p.2 : Int))
theorem num_len (o : List Nat) : (numD o).length = o.length := by
  unfold numD
  rw [List.length_map, List.length_zipIdx]
theorem num_app (o : List Nat) (n : Nat) : numD (o ++ [n]) = numD o ++ [((Sum.inl (n : Int) : Key), V.int (o.length : Int))] := by
  unfold numD
  rw [List.zipIdx_append, List.map_append]
  simp
theorem num_no {n : Nat} : ∀ {o : List Nat}, n ∉ o → valV (numD o) (Sum.inl (n : Int) : Key) = none := by
  intro o h
  cases e : valV (numD o) (Sum.inl (n : Int) : Key) with
  | none => rfl
  | some v =>
    have hm := valV_in e
    unfold numD at hm
    rw [List.map_map] at hm
    obtain ⟨p, hp, hq⟩ := List.mem_map.mp hm
    have h2 : (p.1 : Int) = (n : Int) := Sum.inl.inj hq
    have h3 : p.1 = n := Int.ofNat.inj h2
    have h4 : p.1 ∈ o := by
      obtain ⟨a, b⟩ := p
      exact List.fst_mem_of_mem_zipIdx hp
    exact absurd (h3 ▸ h4) h
theorem num_valI (i : Nat) {n : Nat} : ∀ {o : List Nat}, n ∈ o → valV ((o.zipIdx i).map fun p => ((Sum.inl (p.1 : Int) : Key), V.int (p.2 : Int))) (Sum.inl (n : Int) : Key) = some (.int ((i + o.idxOf n : Nat) : Int)) := by
  intro o
  induction o generalizing i with
  | nil => intro h; cases h
  | cons x o ih =>
    intro h
    rw [List.zipIdx_cons, List.map_cons]
    by_cases e : x = n
    · subst e
      rw [valV_pos rfl, List.idxOf_cons_self]
      rfl
    · have hm : n ∈ o := (List.mem_cons.mp h).resolve_left fun z => e z.symm
      rw [valV_neg (fun z => e (Int.ofNat.inj (Sum.inl.inj z))), ih (i + 1) hm, List.idxOf_cons, show (x == n) = false from beq_eq_false_iff_ne.mpr e]
      show some (V.int ((i + 1 + o.idxOf n : Nat) : Int)) = some (V.int ((i + (o.idxOf n + 1) : Nat) : Int))
      rw [show i + 1 + o.idxOf n = i + (o.idxOf n + 1) by omega]
theorem num_val {n : Nat} {o : List Nat} (h : n ∈ o) : valV (numD o) (Sum.inl (n : Int) : Key) = some (.int ((o.idxOf n : Nat) : Int)) := by
  have e := num_valI 0 h
  rw [Nat.zero_add] at e
  exact e
theorem num_put {n : Nat} {o : List Nat} (h : n ∉ o) : putK (numD o) (Sum.inl (n : Int) : Key) (.int (o.length : Int)) = numD (o ++ [n]) := by
  rw [putK_new _ (num_no h), num_app]
theorem num_keys (o : List Nat) : (numD o).map (·.1) = o.map fun n : Nat => (Sum.inl (n : Int) : Key) := by
  unfold numD
  rw [List.map_map]
  have h : o.map (fun n : Nat => (Sum.inl (n : Int) : Key)) = (o.zipIdx.map Prod.fst).map fun n : Nat => (Sum.inl (n : Int) : Key) := by
    rw [List.zipIdx_map_fst]
  rw [h, List.map_map]
  rfl
theorem num_get {o : List Nat} {i n : Nat} (h : o[i]? = some n) : (numD o)[i]? = some ((Sum.inl (n : Int) : Key), V.int (i : Int)) := by
  unfold numD
  rw [List.getElem?_map, List.getElem?_zipIdx, h]
  simp
/-! ### pairs -/
def leftD (q : List (Nat × Nat)) : List (Key × V) := q.map fun p => ((Sum.inl (p.1 : Int) : Key), V.int (p.2 : Int))
def rightD (q : List (Nat × Nat)) : List (Key × V) := q.map fun p => ((Sum.inl (p.2 : Int) : Key), V.int (p.1 : Int))
theorem left_val (q : List (Nat × Nat)) (a : Nat) : valV (leftD q) (Sum.inl (a : Int) : Key) = (q.lookup a).map fun b => V.int (b : Int) := by
  induction q with
  | nil => rfl
  | cons p q ih =>
    rw [List.lookup_cons]
    by_cases e : p.1 = a
    · subst e
      rw [show (p.1 == p.1) = true from beq_self_eq_true _]
      exact valV_pos (p := ((Sum.inl (p.1 : Int) : Key), V.int (p.2 : Int))) rfl
    · rw [show (a == p.1) = false from beq_eq_false_iff_ne.mpr fun z => e z.symm]
      refine Eq.trans (valV_neg (p := ((Sum.inl (p.1 : Int) : Key), V.int (p.2 : Int))) fun z => e (Int.ofNat.inj (Sum.inl.inj z))) ih
theorem right_val (q : List (Nat × Nat)) (b : Nat) : (valV (rightD q) (Sum.inl (b : Int) : Key)).isSome = decide (b ∈ q.map (·.2)) := by
  induction q with
  | nil => rfl
  | cons p q ih =>
    by_cases e : p.2 = b
    · subst e
      rw [show valV (rightD (p :: q)) (Sum.inl (p.2 : Int) : Key) = some (V.int (p.1 : Int)) from valV_pos (p := ((Sum.inl (p.2 : Int) : Key), V.int (p.1 : Int))) rfl]
      simp
    · rw [show valV (rightD (p :: q)) (Sum.inl (b : Int) : Key) = valV (rightD q) (Sum.inl (b : Int) : Key) from valV_neg (p := ((Sum.inl (p.2 : Int) : Key), V.int (p.1 : Int))) fun z => e (Int.ofNat.inj (Sum.inl.inj z)), ih]
      have e2 : ¬ b = p.2 := fun z => e z.symm
      simp [e2]
theorem left_app (q : List (Nat × Nat)) (a b : Nat) : leftD (q ++ [(a, b)]) = leftD q ++ [((Sum.inl (a : Int) : Key), V.int (b : Int))] := by simp [leftD]
theorem right_app (q : List (Nat × Nat)) (a b : Nat) : rightD (q ++ [(a, b)]) = rightD q ++ [((Sum.inl (b : Int) : Key), V.int (a : Int))] := by simp [rightD]
/-! ### shapes as data -/
def optD : ON → PyData
  | none => .none
  | some n => .int (n : Int)
theorem optD_eqv (x y : ON) : PyData.eqv (optD x) (optD y) = decide (x = y) := by
  cases x <;> cases y <;> try rfl
  rename_i a b
  show ((a : Int) == (b : Int)) = decide (some a = some b)
  by_cases e : a = b
  · subst e; simp
  · rw [decide_eq_false (fun z => e (Option.some.inj z))]
    exact beq_eq_false_iff_ne.mpr fun z => e (Int.ofNat.inj z)
theorem eqvAll_map {α : Type} [DecidableEq α] (f : α → PyData) (h : ∀ a b, PyData.eqv (f a) (f b) = decide (a = b)) : ∀ xs ys : List α, PyData.eqvAll (xs.map f) (ys.map f) = decide (xs = ys)
  | [], [] => by simp [PyData.eqvAll]
  | [], _ :: _ => by simp [PyData.eqvAll]
  | _ :: _, [] => by simp [PyData.eqvAll]
  | x :: xs, y :: ys => by
    rw [List.map_cons, List.map_cons, PyData.eqvAll, h, eqvAll_map f h xs ys]
    by_cases e1 : x = y <;> by_cases e2 : xs = ys <;> simp [e1, e2]
def nmD (p : Str × ON) : PyData := .tuple [.str p.1, optD p.2]
def obD (l : List ON) : PyData := .tuple (l.map optD)
def encS (fs : List Str) (nms : List (Str × ON)) (obs : List (List ON)) : PyData := .tuple [.tuple (fs.map .str), .tuple (nms.map nmD), .tuple (obs.map obD)]
theorem str_eqv (a b : Str) : PyData.eqv (.str a) (.str b) = decide (a = b) := by
  show (a == b) = decide (a = b)
  by_cases e : a = b
  · subst e; simp
  · simp [e]
theorem nm_eqv (a b : Str × ON) : PyData.eqv (nmD a) (nmD b) = decide (a = b) := by
  obtain ⟨a1, a2⟩ := a
  obtain ⟨b1, b2⟩ := b
  show (PyData.eqv (.str a1) (.str b1) && (PyData.eqv (optD a2) (optD b2) && true)) = _
  rw [str_eqv, optD_eqv]
  by_cases e1 : a1 = b1 <;> by_cases e2 : a2 = b2 <;> simp [e1, e2]
theorem ob_eqv (a b : List ON) : PyData.eqv (obD a) (obD b) = decide (a = b) := eqvAll_map optD optD_eqv a b
theorem encS_eqv (fs fs' : List Str) (nms nms' : List (Str × ON)) (obs obs' : List (List ON)) : PyData.eqv (encS fs nms obs) (encS fs' nms' obs') = decide (fs = fs' ∧ nms = nms' ∧ obs = obs') := by
  show (PyData.eqvAll (fs.map .str) (fs'.map .str) && (PyData.eqvAll (nms.map nmD) (nms'.map nmD) && (PyData.eqvAll (obs.map obD) (obs'.map obD) && true))) = _
  rw [eqvAll_map _ str_eqv, eqvAll_map _ nm_eqv, eqvAll_map _ ob_eqv]
  by_cases e1 : fs = fs' <;> by_cases e2 : nms = nms' <;> by_cases e3 : obs = obs' <;> simp [e1, e2, e3]
theorem lay_map {α : Type} (f : α → PyData) : ∀ {xs : List α}, (∀ x ∈ xs, (f x).canLay0 = true) → PyData.canLayAll0 (xs.map f) = true
  | [], _ => rfl
  | x :: xs, h => by
    rw [List.map_cons, PyData.canLayAll0, h x (List.mem_cons_self ..), lay_map f fun y hy => h y (List.mem_cons_of_mem _ hy)]
    rfl
theorem dep_map {α : Type} (f : α → PyData) (n : Nat) : ∀ {xs : List α}, (∀ x ∈ xs, (f x).depth ≤ n) → PyData.depthAll (xs.map f) ≤ n
  | [], _ => Nat.zero_le _
  | x :: xs, h => by
    rw [List.map_cons, PyData.depthAll]
    exact Nat.max_le.mpr ⟨h x (List.mem_cons_self ..), dep_map f n fun y hy => h y (List.mem_cons_of_mem _ hy)⟩
theorem optD_lay (x : ON) : (optD x).canLay0 = true := by cases x <;> rfl
theorem optD_dep (x : ON) : (optD x).depth = 0 := by cases x <;> rfl
theorem strs_shaped {fs : List Str} (hf : ∀ f ∈ fs, Word f) : SeqAt.shaped (.list (fs.map .str)) = true := by
  unfold SeqAt.shaped
  rw [Bool.and_eq_true]
  constructor
  · rw [PyData.canLay0]
    exact lay_map _ fun x hx => (hf x hx).ok
  · refine decide_eq_true ?_
    rw [PyData.depth]
    have := dep_map PyData.str 0 (xs := fs) fun x _ => Nat.le_refl 0
    omega
theorem encS_shaped {fs : List Str} {nms : List (Str × ON)} {obs : List (List ON)} (hf : ∀ f ∈ fs, Word f) (hn : ∀ p ∈ nms, Word p.1) : SeqAt.shaped (encS fs nms obs) = true := by
  unfold SeqAt.shaped encS
  rw [Bool.and_eq_true]
  constructor
  · rw [PyData.canLay0, PyData.canLayAll0, PyData.canLayAll0, PyData.canLayAll0, PyData.canLayAll0, PyData.canLay0, PyData.canLay0, PyData.canLay0]
    rw [lay_map PyData.str fun x hx => (hf x hx).ok]
    rw [lay_map nmD fun x hx => by
      unfold nmD
      rw [PyData.canLay0, PyData.canLayAll0, PyData.canLayAll0, PyData.canLayAll0, optD_lay, PyData.canLay0, (hn x hx).ok]
      rfl]
    rw [lay_map obD fun x hx => by
      unfold obD
      rw [PyData.canLay0]
      exact lay_map _ fun y _ => optD_lay y]
    rfl
  · refine decide_eq_true ?_
    rw [PyData.depth, PyData.depthAll, PyData.depthAll, PyData.depthAll, PyData.depthAll, PyData.depth, PyData.depth, PyData.depth]
    have h1 := dep_map PyData.str 0 (xs := fs) fun x _ => Nat.le_refl 0
    have h2 := dep_map nmD 1 (xs := nms) fun x _ => by
      unfold nmD
      rw [PyData.depth, PyData.depthAll, PyData.depthAll, PyData.depthAll, optD_dep, PyData.depth]
      decide
    have h3 := dep_map obD 1 (xs := obs) fun x _ => by
      unfold obD
      rw [PyData.depth]
      have := dep_map optD 0 (xs := x) fun y _ => by rw [optD_dep]; exact Nat.le_refl 0
      omega
    omega
/-! ### sorted texts -/
theorem ltC (a b : Str) : ltCps a.cps.toList b.cps.toList = decide (a.cps.toList < b.cps.toList) := ltCps_eq ..
theorem rising_all : ∀ (p : Str) (l : List Str), risingS p l = true → (p :: l).Pairwise (fun a b => ¬ b.cps.toList < a.cps.toList)
  | p, [], _ => by simp
  | p, x :: r, h => by
    have h' : (!ltCps x.cps.toList p.cps.toList && risingS x r) = true := h
    rw [Bool.and_eq_true] at h'
    obtain ⟨h1, h2⟩ := h'
    have ih := rising_all x r h2
    have h3 : ¬ x.cps.toList < p.cps.toList := by
      rw [ltC] at h1
      simpa using h1
    refine List.pairwise_cons.mpr ⟨fun b hb => ?_, ih⟩
    rcases List.mem_cons.mp hb with e | e
    · exact e ▸ h3
    · have h4 := (List.pairwise_cons.mp ih).1 b e
      have h5 : p.cps.toList ≤ x.cps.toList := List.not_lt.mp h3
      have h6 : x.cps.toList ≤ b.cps.toList := List.not_lt.mp h4
      exact List.not_lt.mpr (List.le_trans h5 h6)
theorem sorted_all {l : List Str} (h : sortedS l = true) : l.Pairwise (fun a b => ¬ b.cps.toList < a.cps.toList) := by
  cases l with
  | nil => exact List.Pairwise.nil
  | cons x r => exact rising_all x r h
theorem str_ext {a b : Str} (h : a.cps.toList = b.cps.toList) : a = b := by
  obtain ⟨⟨a⟩⟩ := a
  obtain ⟨⟨b⟩⟩ := b
  simp at h
  rw [h]
theorem str_antisymm {a b : Str} (h1 : ¬ b.cps.toList < a.cps.toList) (h2 : ¬ a.cps.toList < b.cps.toList) : a = b :=
  str_ext (List.le_antisymm (List.not_lt.mp h1) (List.not_lt.mp h2))
theorem sorted_uniq {l m : List Str} (h : l.Perm m) (hl : sortedS l = true) (hm : sortedS m = true) : l = m :=
  List.Perm.eq_of_pairwise (fun a b _ _ h1 h2 => str_antisymm h1 h2) (sorted_all hl) (sorted_all hm) h
end K5
end partK5Data
section partK5Heap
set_option Elab.async false
set_option linter.all false
set_option maxRecDepth 100000
set_option maxHeartbeats 4000000
/-! What stands in the heap; callees. -/
namespace K5
open PySem PySem.Spec PyProof.Rows L2
/-! ### the pool of a script -/
def Pool (H : Hp) (p c : Addr) : Prop := ∃ (ns : List Int) (i : Nat) (k : Int), H p = some (.lst [.ref c, .int (i : Int), .int k]) ∧ H c = some (.lst (ns.map .int))
/-- all that was tracked but the pool is as it was -/
def Off (p c : Addr) (H H' : Hp) : Prop := ∀ b o, b ≠ p → b ≠ c → H b = some o → H' b = some o
theorem Off.refl {p c : Addr} {H : Hp} : Off p c H H := fun _ _ _ _ h => h
theorem Off.trans {p c : Addr} {H H1 H2 : Hp} (a : Off p c H H1) (b : Off p c H1 H2) : Off p c H H2 := fun x o h1 h2 h => b x o h1 h2 (a x o h1 h2 h)
theorem offS {p c : Addr} {H H' : Hp} (s : Same H H') : Off p c H H' := fun b o _ _ h => s b o h
theorem Pool.same {p c : Addr} {H H' : Hp} (s : Same H H') (h : Pool H p c) : Pool H' p c := by
  obtain ⟨ns, i, k, h1, h2⟩ := h
  exact ⟨ns, i, k, s _ _ h1, s _ _ h2⟩
theorem Pool.ne {p c : Addr} {H : Hp} (h : Pool H p c) : p ≠ c := by
  obtain ⟨ns, i, k, h1, h2⟩ := h
  refine ne_of h1 h2 fun e => ?_
  have e2 := HO.lst.inj e
  cases ns with
  | nil => cases e2
  | cons a r => cases e2
theorem Pool.free {p c x : Addr} {H : Hp} (h : Pool H p c) (hx : H x = Option.none) : x ≠ p ∧ x ≠ c := by
  obtain ⟨ns, i, k, h1, h2⟩ := h
  exact ⟨(ne_of_none h1 hx).symm, (ne_of_none h2 hx).symm⟩
theorem Off.free {p c x : Addr} {H H' : Hp} (s : Off p c H H') (h : Pool H p c) (h' : Pool H' p c) (hx : H' x = Option.none) : H x = Option.none := by
  cases q : H x with
  | none => rfl
  | some o =>
    have := s x o (h'.free hx).1 (h'.free hx).2 q
    rw [hx] at this
    cases this
theorem grow {H : Hp} {p : Addr} {o : HO} (h : H p = Option.none) : Same H (upd H p o) := fun a u e => by rw [upd_ne (ne_of_none e h)]; exact e
theorem grow' {H H1 : Hp} {p : Addr} {o : HO} (x : Same H H1) (h : H1 p = Option.none) : Same H (L2.upd H1 p o) := x.trans (grow h)
theorem Same.seqT {K : PySem.W.Frag} {H H' : Hp} {a : Addr} {xs : List V} (e : Same H H') (h : SqT K H a xs) : SqT K H' a xs := SqT.ext h e
/-- x is not of the pool -/
def Apart (p c x : Addr) : Prop := x ≠ p ∧ x ≠ c
theorem Off.at_ {p c x : Addr} {H H' : Hp} {o : HO} (s : Off p c H H') (a : Apart p c x) (h : H x = some o) : H' x = some o := s x o a.1 a.2 h
theorem Pool.apart {p c x : Addr} {H : Hp} (h : Pool H p c) (hx : H x = Option.none) : Apart p c x := h.free hx
theorem Pool.apartD {p c x : Addr} {H : Hp} {kvs : List (Key × V)} (h : Pool H p c) (hx : H x = some (.dK kvs)) : Apart p c x := by
  obtain ⟨ns, i, k, h1, h2⟩ := h
  exact ⟨ne_of hx h1 (fun z => by cases z), ne_of hx h2 (fun z => by cases z)⟩
/-! ### a list of dicts -/
structure ObjsAt (H : Hp) (a : Addr) (fs : List Str) (obs : List (List ON)) (as : List Addr) : Prop where
  lst : H a = some (.lst (as.map .ref))
  len : as.length = obs.length
  nd : as.Nodup
  at_ : ∀ (i : Nat) (x : Addr) (ob : List ON), as[i]? = some x → obs[i]? = some ob → H x = some (.dK (ent fs ob))
theorem ObjsAt.off {p c a : Addr} {H H' : Hp} {fs : List Str} {obs : List (List ON)} {as : List Addr} (s : Off p c H H') (P : Pool H p c) (ap : Apart p c a) (O : ObjsAt H a fs obs as) : ObjsAt H' a fs obs as :=
  ⟨s.at_ ap O.lst, O.len, O.nd, fun i x ob h1 h2 => s.at_ (P.apartD (O.at_ i x ob h1 h2)) (O.at_ i x ob h1 h2)⟩
theorem ObjsAt.same {a : Addr} {H H' : Hp} {fs : List Str} {obs : List (List ON)} {as : List Addr} (s : Same H H') (O : ObjsAt H a fs obs as) : ObjsAt H' a fs obs as :=
  ⟨s _ _ O.lst, O.len, O.nd, fun i x ob h1 h2 => s _ _ (O.at_ i x ob h1 h2)⟩
/-- the pure side: each object has a value for each field, below n -/
def Bnd (n : Nat) (vs : List ON) : Prop := ∀ k, some k ∈ vs → k < n
def ObsOk (fs : List Str) (n : Nat) (obs : List (List ON)) : Prop := ∀ ob ∈ obs, ob.length = fs.length ∧ Bnd n ob
/-- the value of field f of object n -/
def valF (fs : List Str) (obs : List (List ON)) (n : Nat) (f : Str) : ON := match obs[n]? with
  | some ob => look1 fs ob f
  | none => none
theorem valF_at {fs : List Str} {obs : List (List ON)} {n : Nat} {ob : List ON} {f : Str} (h : obs[n]? = some ob) : valF fs obs n f = look1 fs ob f := by
  unfold valF
  rw [h]
theorem valF_bd {fs : List Str} {obs : List (List ON)} {c n m : Nat} {f : Str} (ok : ObsOk fs c obs) (h : valF fs obs n f = some m) : m < c := by
  unfold valF at h
  split at h
  · rename_i ob e
    exact (ok ob (List.mem_of_getElem? e)).2 m (look1_mem h)
  · cases h
theorem Pool.upd {p c x : Addr} {H : Hp} {o : HO} (a : Apart p c x) (h : Pool H p c) : Pool (L2.upd H x o) p c := by
  obtain ⟨ns, i, k, h1, h2⟩ := h
  exact ⟨ns, i, k, by rw [upd_ne a.1.symm]; exact h1, by rw [upd_ne a.2.symm]; exact h2⟩
theorem off_upd {p c x : Addr} {H H' : Hp} {o : HO} (hx : H x = Option.none) (h : Off p c H H') : Off p c H (L2.upd H' x o) := fun b u h1 h2 e => by
  rw [upd_ne (ne_of_none e hx)]
  exact h b u h1 h2 e
theorem ObjsAt.upd {H : Hp} {a x : Addr} {fs : List Str} {obs : List (List ON)} {as : List Addr} {o : HO} (O : ObjsAt H a fs obs as) (h1 : x ≠ a) (h2 : x ∉ as) : ObjsAt (L2.upd H x o) a fs obs as :=
  ⟨by rw [upd_ne h1.symm]; exact O.lst, O.len, O.nd, fun i y ob e1 e2 => by
    have ne : y ≠ x := fun z => h2 (by rw [← z]; exact List.mem_of_getElem? e1)
    rw [upd_ne ne]
    exact O.at_ i y ob e1 e2⟩
theorem ObjsAt.out {H : Hp} {a x : Addr} {fs : List Str} {obs : List (List ON)} {as : List Addr} (O : ObjsAt H a fs obs as) (hx : H x = Option.none) : x ≠ a ∧ x ∉ as := by
  refine ⟨(ne_of_none O.lst hx).symm, fun hm => ?_⟩
  obtain ⟨i, hi, e⟩ := List.mem_iff_getElem.mp hm
  have h1 : as[i]? = some x := by rw [List.getElem?_eq_getElem hi, e]
  have h2 : i < obs.length := by rw [← O.len]; exact hi
  have := O.at_ i x _ h1 (List.getElem?_eq_getElem h2)
  rw [hx] at this
  cases this
theorem nd_snoc' {α : Type} {l : List α} {x : α} (h : l.Nodup) (hx : x ∉ l) : (l ++ [x]).Nodup := nd_app h hx
theorem ObjsAt.snoc {H : Hp} {a x : Addr} {fs : List Str} {obs : List (List ON)} {as : List Addr} {ob : List ON} (O : ObjsAt H a fs obs as) (h1 : x ≠ a) (h2 : x ∉ as) (hx : H x = some (.dK (ent fs ob))) :
    ObjsAt (L2.upd H a (.lst (as.map V.ref ++ [.ref x]))) a fs (obs ++ [ob]) (as ++ [x]) := by
  have ha : a ∉ as := fun hm => by
    obtain ⟨i, hi, e⟩ := List.mem_iff_getElem.mp hm
    have e1 : as[i]? = some a := by rw [List.getElem?_eq_getElem hi, e]
    have e2 : i < obs.length := by rw [← O.len]; exact hi
    have := O.at_ i a _ e1 (List.getElem?_eq_getElem e2)
    rw [O.lst] at this
    cases this
  refine ⟨by rw [upd_same, List.map_append]; rfl, by rw [List.length_append, List.length_append, O.len]; rfl, nd_app O.nd h2, fun i y o e1 e2 => ?_⟩
  by_cases hi : i < as.length
  · rw [List.getElem?_append_left hi] at e1
    rw [List.getElem?_append_left (by rw [← O.len]; exact hi)] at e2
    have ne : y ≠ a := fun z => ha (by rw [← z]; exact List.mem_of_getElem? e1)
    rw [upd_ne ne]
    exact O.at_ i y o e1 e2
  · rw [List.getElem?_append_right (by omega)] at e1
    rw [List.getElem?_append_right (by rw [← O.len]; omega)] at e2
    rw [← O.len] at e2
    cases q : i - as.length with
    | zero =>
      rw [q] at e1 e2
      have e1 := Option.some.inj e1
      have e2 := Option.some.inj e2
      subst e1 e2
      rw [upd_ne h1]
      exact hx
    | succ n => rw [q] at e1; cases e1
theorem ObjsAt.nil {H : Hp} {a : Addr} {fs : List Str} (h : H a = some (.lst [])) : ObjsAt H a fs [] [] := ⟨h, rfl, List.nodup_nil, fun i x ob e => by cases e⟩
theorem ObsOk.snoc {fs : List Str} {n : Nat} {obs : List (List ON)} {ob : List ON} (h : ObsOk fs n obs) (h1 : ob.length = fs.length) (h2 : Bnd n ob) : ObsOk fs n (obs ++ [ob]) := by
  intro o ho
  rcases List.mem_append.mp ho with z | z
  · exact h o z
  · rw [List.mem_singleton.mp z]
    exact ⟨h1, h2⟩
theorem Bnd.snoc {n : Nat} {vs : List ON} {v : ON} (h : Bnd n vs) (hv : ∀ k, v = some k → k < n) : Bnd n (vs ++ [v]) := by
  intro k hk
  rcases List.mem_append.mp hk with z | z
  · exact h k z
  · exact hv k (List.mem_singleton.mp z).symm
/-! ### tests -/
theorem iteY {c A B : Prop} [Decidable c] (hc : c) (h : A) : if decide c = true then A else B := by
  rw [if_pos (decide_eq_true hc)]
  exact h
theorem iteN {c A B : Prop} [Decidable c] (hc : ¬ c) (h : B) : if decide c = true then A else B := by
  rw [if_neg (fun z => hc (of_decide_eq_true z))]
  exact h
theorem iteNY {c A B : Prop} [Decidable c] (hc : ¬ c) (h : A) : if (!decide c) = true then A else B := by
  rw [decide_eq_false hc]
  exact iteT h
theorem iteB {b : Bool} {A B : Prop} (h1 : b = true → A) (h2 : b = false → B) : if b = true then A else B := by
  cases b with
  | true => exact iteT (h1 rfl)
  | false => exact iteF (h2 rfl)
theorem qb {b c : Bool} {Q : VK} {H : Hp} (e : b = c) (k : Q (.bl c) H) : Q (.bl b) H := e ▸ k
theorem qi {b c : Int} {Q : VK} {H : Hp} (e : b = c) (k : Q (.int c) H) : Q (.int b) H := e ▸ k
/-! ### loops over a text, a dict's keys, enumerate -/
theorem for_str {x : Str} {g : TG} {tb : TS} {D : Ends} {σ : L2.St} {H : Hp} (Pv : Nat → L2.St → Hp → Prop) (h0 : Pv 0 σ H)
    (hs : ∀ i c σ H, x.cps[i]? = some c → Pv i σ H → g (.str ⟨#[c]⟩) σ H fun σ2 H2 => tb { D with nx := Pv (i + 1), ct := Pv (i + 1), bk := D.nx } σ2 H2) (hd : ∀ σ H, Pv x.cps.size σ H → D.nx σ H) :
    ∃ W : Nat → Nat → L2.St → Hp → Prop, (∃ m, W 0 m σ H) ∧ ∀ i m σ H, W i m σ H →
      ((Its x).stop i H ∧ D.nx σ H) ∨ ((Its x).go i H ∧ ∃ N : L2.St → Hp → Prop, (∀ σ' H', N σ' H' → ∃ m', m' < m ∧ W (i + 1) m' σ' H') ∧ ∀ v H', (Its x).yld i H v H' → g v σ H' fun σ2 H2 => tb { D with nx := N, ct := N, bk := D.nx } σ2 H2) := by
  refine ⟨fun i m σ H => m = x.cps.size - i ∧ i ≤ x.cps.size ∧ Pv i σ H, ⟨x.cps.size, by simp, Nat.zero_le _, h0⟩, ?_⟩
  rintro i m σ H ⟨rfl, hi, p⟩
  by_cases hlt : i < x.cps.size
  · refine .inr ⟨hlt, Pv (i + 1), fun σ' H' p' => ⟨x.cps.size - (i + 1), by omega, rfl, hlt, p'⟩, fun v H' y => ?_⟩
    obtain ⟨e, c, hc, y⟩ := y
    subst e y
    exact hs i c σ _ hc p
  · have e : i = x.cps.size := by omega
    subst e
    exact .inl ⟨Nat.le_refl _, hd σ H p⟩
/-- over a dict's keys, the dict locked as o -/
theorem for_keys {d : Addr} {o : Obj} {kvs : List (Key × V)} {g : TG} {tb : TS} {D : Ends} {σ : L2.St} {H : Hp} (Pv : Nat → L2.St → Hp → Prop) (h0 : Pv 0 σ H) (hl : ∀ i σ H, i ≤ kvs.length → Pv i σ H → H d = some (.frz o (.dK kvs)))
    (hs : ∀ i k v σ H, kvs[i]? = some (k, v) → Pv i σ H → g (kV k) σ H fun σ2 H2 => tb { D with nx := Pv (i + 1), ct := Pv (i + 1), bk := D.nx } σ2 H2) (hd : ∀ σ H, Pv kvs.length σ H → D.nx σ H) :
    ∃ W : Nat → Nat → L2.St → Hp → Prop, (∃ m, W 0 m σ H) ∧ ∀ i m σ H, W i m σ H →
      ((Itk d o kvs).stop i H ∧ D.nx σ H) ∨ ((Itk d o kvs).go i H ∧ ∃ N : L2.St → Hp → Prop, (∀ σ' H', N σ' H' → ∃ m', m' < m ∧ W (i + 1) m' σ' H') ∧ ∀ v H', (Itk d o kvs).yld i H v H' → g v σ H' fun σ2 H2 => tb { D with nx := N, ct := N, bk := D.nx } σ2 H2) := by
  refine ⟨fun i m σ H => m = kvs.length - i ∧ i ≤ kvs.length ∧ Pv i σ H, ⟨kvs.length, by simp, Nat.zero_le _, h0⟩, ?_⟩
  rintro i m σ H ⟨rfl, hi, p⟩
  have q := hl i σ H hi p
  by_cases hlt : i < kvs.length
  · refine .inr ⟨⟨q, hlt⟩, Pv (i + 1), fun σ' H' p' => ⟨kvs.length - (i + 1), by omega, rfl, hlt, p'⟩, fun x H' y => ?_⟩
    obtain ⟨e, k, v, hk, y⟩ := y
    subst e y
    exact hs i k v σ _ hk p
  · have e : i = kvs.length := by omega
    subst e
    exact .inl ⟨⟨q, Nat.le_refl _⟩, hd σ H p⟩
/-- a comprehension over a dict's keys -/
theorem lc_keys {d : Addr} {o : Obj} {kvs : List (Key × V)} {g : TG} {tt : TT} {te : TE} {vs : List Nat} {σ : L2.St} {H1 : Hp} {D : Addr} {Qd : Hp → Prop} (Pv : Nat → Hp → Prop) (h0 : Pv 0 (upd H1 D (.lst []))) (hl : ∀ i H, i ≤ kvs.length → Pv i H → H d = some (.frz o (.dK kvs)))
    (hs : ∀ i k v H, kvs[i]? = some (k, v) → Pv i H → g (kV k) (wipe σ vs) H fun σ2 H2 => wipe σ2 vs = wipe σ vs ∧ tt σ2 H2 fun b H3 =>
      if b = true then te σ2 H3 fun y H4 => ∃ acc, H4 D = some (.lst acc) ∧ acc.length < sizeLine ∧ Pv (i + 1) (upd H4 D (.lst (acc ++ [y]))) else Pv (i + 1) H3) (hd : ∀ H, Pv kvs.length H → Qd H) :
    ∃ W : Nat → Nat → Hp → Prop, (∃ m, W 0 m (upd H1 D (.lst []))) ∧ ∀ i m H, W i m H →
      ((Itk d o kvs).stop i H ∧ Qd H) ∨ ((Itk d o kvs).go i H ∧ ∃ Nx : Hp → Prop, (∀ H', Nx H' → ∃ m', m' < m ∧ W (i + 1) m' H') ∧ ∀ x H', (Itk d o kvs).yld i H x H' → g x (wipe σ vs) H' fun σ2 H2 => wipe σ2 vs = wipe σ vs ∧ tt σ2 H2 fun b H3 =>
        if b = true then te σ2 H3 fun y H4 => ∃ acc, H4 D = some (.lst acc) ∧ acc.length < sizeLine ∧ Nx (upd H4 D (.lst (acc ++ [y]))) else Nx H3) := by
  refine ⟨fun i m H => m = kvs.length - i ∧ i ≤ kvs.length ∧ Pv i H, ⟨kvs.length, by simp, Nat.zero_le _, h0⟩, ?_⟩
  rintro i m H ⟨rfl, hi, p⟩
  have q := hl i H hi p
  by_cases hlt : i < kvs.length
  · refine .inr ⟨⟨q, hlt⟩, Pv (i + 1), fun H' p' => ⟨kvs.length - (i + 1), by omega, rfl, hlt, p'⟩, fun x H' y => ?_⟩
    obtain ⟨e, k, v, hk, y⟩ := y
    subst e y
    exact hs i k v _ hk p
  · have e : i = kvs.length := by omega
    subst e
    exact .inl ⟨⟨q, Nat.le_refl _⟩, hd H p⟩
/-- over enumerate(list), the list as it stands -/
theorem for_enum {K : PySem.W.Frag} {a : Addr} {xs : List V} {g : TG} {tb : TS} {D : Ends} {σ : L2.St} {H : Hp} (Pv : Nat → L2.St → Hp → Prop) (h0 : Pv 0 σ H) (hl : ∀ i σ H, i ≤ xs.length → Pv i σ H → SqL K H a xs)
    (hs : ∀ i x T σ H, xs[i]? = some x → H T = none → Pv i σ H → g (.ref T) σ (upd H T (.tup [.int (i : Nat), x])) fun σ2 H2 => tb { D with nx := Pv (i + 1), ct := Pv (i + 1), bk := D.nx } σ2 H2) (hd : ∀ σ H, Pv xs.length σ H → D.nx σ H) :
    ∃ W : Nat → Nat → L2.St → Hp → Prop, (∃ m, W 0 m σ H) ∧ ∀ i m σ H, W i m σ H →
      ((Ite K a).stop i H ∧ D.nx σ H) ∨ ((Ite K a).go i H ∧ ∃ N : L2.St → Hp → Prop, (∀ σ' H', N σ' H' → ∃ m', m' < m ∧ W (i + 1) m' σ' H') ∧ ∀ v H', (Ite K a).yld i H v H' → g v σ H' fun σ2 H2 => tb { D with nx := N, ct := N, bk := D.nx } σ2 H2) := by
  refine ⟨fun i m σ H => m = xs.length - i ∧ i ≤ xs.length ∧ Pv i σ H, ⟨xs.length, by simp, Nat.zero_le _, h0⟩, ?_⟩
  rintro i m σ H ⟨rfl, hi, p⟩
  have q := hl i σ H hi p
  by_cases hlt : i < xs.length
  · refine .inr ⟨⟨xs, xs[i], q, by simp [hlt]⟩, Pv (i + 1), fun σ' H' p' => ⟨xs.length - (i + 1), by omega, rfl, hlt, p'⟩, fun v H' y => ?_⟩
    obtain ⟨T, x, e, hT, e2, y⟩ := y
    subst e e2
    exact hs i x T σ _ (y xs q) hT p
  · have e : i = xs.length := by omega
    subst e
    exact .inl ⟨⟨xs, q, Nat.le_refl _⟩, hd σ H p⟩
/-! ### callees -/
structure Cal (P : Program) (w : World) (K : PySem.W.Frag) (mg : Str → Option Value) (base : Heap) (x : Str) (k : Nat) (ps : List Str) (sp : Sp) (f : Addr) (fd : FuncData) : Prop where
  g : mg x = some (.ref f)
  kp : PySem.W.keepIn K (.ref f) = true
  b : Binds K fd ps []
  F : FnOk P w K mg base CX0 k f fd ps sp
theorem pe_cal {X : Cx} {k : Nat} {f : Addr} {fd : FuncData} {ps : List Str} {sp : Sp} {x : Str} {p pos : Pos} {e : Expr} {es : List Expr} {t : TA} (C : Cal X.prog X.w X.K X.mg X.base x k ps sp f fd) (hr : Room k X.A) (ha : PA X (e :: es) t) (hg : Gl X x := by rfl)
    (hdb : (x == ("__debug__" : Str)) = false := by decide) (he : starEach (e :: es) X.env = (false, eval e X.env) :: starEach es X.env := by rfl) (hpl : (backTo pos (starEach es X.env)).any (·.1) = false := by rfl) :
    PE X (.Call (.Name x p) (e :: es) [] pos) (tCall sp [] E0 t) := pe_call C.F hr hg C.g C.kp C.b .nil pass0 ha hdb he hpl
structure Blt (mg : Str → Option Value) : Prop where
  len : mg "len" = none
  int : mg "int" = none
  isi : mg "isinstance" = none
  str : mg "str" = none
  bool : mg "bool" = none
  list : mg "list" = none
  tuple : mg "tuple" = none
  dict : mg "dict" = none
  range : mg "range" = none
  sorted : mg "sorted" = none
  enum : mg "enumerate" = none
  letters : ∃ t, mg "LETTERS" = some (.str "abcdefghijklmnopqrstuvwxyz" t)
  longest : ∃ t, mg "LONGEST" = some (.int 8 t)
  mostO : ∃ t, mg "MOST_OBJECTS" = some (.int 200 t)
  mostN : ∃ t, mg "MOST_NAMES" = some (.int 6 t)
end K5
end partK5Heap
section partK5A
set_option Elab.async false
set_option linter.all false
set_option maxRecDepth 100000
set_option maxHeartbeats 4000000
/-! is_integer, is_number_below, is_word, is_word_list, renumbered. -/
namespace K5
open PySem PySem.Spec PyProof.Rows L2
section
variable {P : Program} {w : World} {K : PySem.W.Frag} {mg : Str → Option Value} {base : Heap} {f : Addr} {fd : FuncData}
theorem kit_ii : PySem.W.kitOne K (.type "int") (.type "int") = some true := kit_ty (by decide +kernel)
theorem kit_ib : PySem.W.kitOne K (.type "int") (.type "bool") = some false := kit_ty (by decide +kernel)
theorem kit_ss : PySem.W.kitOne K (.type "str") (.type "str") = some true := kit_ty (by decide +kernel)
theorem kit_ll : PySem.W.kitOne K (.type "list") (.type "list") = some true := kit_ty (by decide +kernel)
theorem kit_dd : PySem.W.kitOne K (.type "dict") (.type "dict") = some true := kit_ty (by decide +kernel)
/-! #### is_integer -/
def spIsInt : Sp := fun vs H Q _ => ∃ n : Int, vs = [.int n] ∧ Q (.bl true) H
theorem scIsInt : FnScope ["value"] ["value"] (defScope sIsInteger) := ⟨rfl, rfl, rfl, by decide +kernel, rfl, by decide +kernel, by decide +kernel⟩
theorem ok_isInt (F : FnP K "is_integer" "is_integer" sIsInteger f fd) (B : Blt mg) : FnOk P w K mg base CX0 1 f fd ["value"] spIsInt := by
  refine F.ok scIsInt (fun vs H Q E h => ?_) (fun cdv A outer s H vs Q E hr h => ?_)
  · obtain ⟨n, rfl, _⟩ := h
    rfl
  · obtain ⟨n, rfl, k⟩ := h
    refine ⟨_, PSs.nox (pss_one (ps_ret (pe_and (pe_callB call_isi (by rfl) B.isi (by decide +kernel) (pa_cons (pv 0) (pa_cons (pe_bltn (v := .ty "int") (by rfl) B.int (by decide +kernel) rfl) pa_nil)))
      (pe_one (pe_not (pe_callB call_isi (by rfl) B.isi (by decide +kernel) (pa_cons (pv 0) (pa_cons (pe_bltn (v := .ty "bool") (by rfl) B.bool (by decide +kernel) rfl) pa_nil)))))))), ?_⟩
    refine ⟨_, rfl, _, _, _, _, true, rfl, .ty "int", .base (.int n), kit_ii, _, rfl, ?_⟩
    refine iteT ⟨_, rfl, _, _, _, _, false, rfl, .ty "bool", .base (.int n), kit_ib, _, rfl, k⟩
/-! #### is_number_below -/
def spNumB : Sp := fun vs H Q _ => ∃ n c : Int, vs = [.int n, .int c] ∧ 0 ≤ n ∧ n < c ∧ Q (.bl true) H
theorem scNumB : FnScope ["value", "count"] ["value", "count"] (defScope sIsNumber) := ⟨rfl, rfl, rfl, by decide +kernel, rfl, by decide +kernel, by decide +kernel⟩
theorem ok_numB {f1 : Addr} {fd1 : FuncData} (F : FnP K "is_number_below" "is_number_below" sIsNumber f fd) (C : Cal P w K mg base "is_integer" 1 ["value"] spIsInt f1 fd1) : FnOk P w K mg base CX0 2 f fd ["value", "count"] spNumB := by
  refine F.ok scNumB (fun vs H Q E h => ?_) (fun cdv A outer s H vs Q E hr h => ?_)
  · obtain ⟨n, c, rfl, _⟩ := h
    rfl
  · obtain ⟨n, c, rfl, h0, h1, k⟩ := h
    refine ⟨_, PSs.nox (pss_one (ps_ret (pe_and (pe_cal C hr (pa_cons (pv 0) pa_nil)) (pe_one (pe_chain op_le op_lt pe_int (pv 0) (pv 1)))))), ?_⟩
    refine ⟨_, rfl, n, rfl, true, rfl, iteT ?_⟩
    refine ⟨_, rfl, _, _, rfl, rfl, _, rfl, iteY h0 ?_⟩
    exact ⟨_, rfl, _, _, rfl, rfl, qb (decide_eq_true h1) k⟩
/-! #### is_word -/
theorem letters_eq : (("abcdefghijklmnopqrstuvwxyz" : Str)).cps.toList = List.range' 97 26 := by decide +kernel
theorem in_letters {c : Nat} (h : 97 ≤ c ∧ c < 123) : c ∈ (("abcdefghijklmnopqrstuvwxyz" : Str)).cps.toList := by
  rw [letters_eq, List.mem_range'_1]
  omega
def spIsWord : Sp := fun vs H Q _ => ∃ z : Str, vs = [.str z] ∧ Word z ∧ Q (.bl true) H
theorem scIsWord : FnScope ["value", "letter"] ["value"] (defScope sIsWord) := ⟨rfl, rfl, rfl, by decide +kernel, rfl, by decide +kernel, by decide +kernel⟩
theorem small8 {n : Nat} (h : n ≤ 8) : n ≤ sizeLine := Nat.le_of_lt (small1000 (by omega))
theorem ok_isWord (F : FnP K "is_word" "is_word" sIsWord f fd) (B : Blt mg) : FnOk P w K mg base CX0 1 f fd ["value"] spIsWord := by
  refine F.ok scIsWord (fun vs H Q E h => ?_) (fun cdv A outer s H vs Q E hr h => ?_)
  · obtain ⟨n, rfl, _⟩ := h
    rfl
  · obtain ⟨z, rfl, hw, k⟩ := h
    obtain ⟨tl, gl⟩ := B.letters
    obtain ⟨tn, gn⟩ := B.longest
    refine ⟨_, PSs.nox (pss_cons (ps_if (PW.pt (pw_or (pt_not (pt_val (pe_callB call_isi (by rfl) B.isi (by decide +kernel) (pa_cons (pv 0) (pa_cons (pe_bltn (v := .ty "str") (by rfl) B.str (by decide +kernel) rfl) pa_nil)))))
        (pw_or1 (pt_not (pt_chain op_le op_le pe_int (pe_callB call_len_str (by rfl) B.len PySem.boot_len (pa_cons (pv 0) pa_nil)) (pe_glob (v := .int 8) (by rfl) gn ⟨_, rfl⟩)))))) (pss_one (ps_ret pe_bl)) pss_nil)
      (pss_cons (ps_for PassesOwn.never rfl (pi_str (pv 0)) (pg_name (i := 1) scIsWord.nd rfl (Or.inl rfl))
        (pss_one (ps_if (pt_cmpR op_notIn_sign (pv 1) (pe_glob (v := .str "abcdefghijklmnopqrstuvwxyz") (by rfl) gl ⟨_, rfl⟩) rfl) (pss_one (ps_ret pe_bl)) pss_nil)))
      (pss_one (ps_ret pe_bl)))), ?_⟩
    refine ⟨_, rfl, _, _, _, _, true, rfl, .ty "str", .base (.str z), kit_ss, true, rfl, ?_⟩
    refine iteF ?_
    refine ⟨_, rfl, z, rfl, small8 hw.2.1, _, _, rfl, rfl, _, rfl, iteY (by have := hw.1; show (1 : Int) ≤ ((z.cps.size : Nat) : Int); omega) ?_⟩
    refine ⟨_, _, rfl, rfl, _, rfl, ?_⟩
    refine iteNS (by have := hw.2.1; show ((z.cps.size : Nat) : Int) ≤ 8; omega) ?_
    refine ⟨_, rfl, z, rfl, for_str (fun i σ H' => H' = H ∧ ∃ v, σ = [some (.str z), v]) ⟨rfl, none, rfl⟩ ?_ ?_⟩
    · rintro i c σ H' hc ⟨rfl, v, rfl⟩
      refine ⟨_, rfl, c, _, rfl, rfl, _, rfl, iteNS (in_letters (hw.2.2 c (by rw [← Array.getElem?_toList] at hc; exact List.mem_of_getElem? hc))) ?_⟩
      exact ⟨rfl, _, rfl⟩
    · rintro σ H' ⟨rfl, v, rfl⟩
      exact k
/-! #### is_word_list -/
def spWordL : Sp := fun vs H Q _ => ∃ (a : Addr) (ws : List Str) (lo hi : Int), vs = [.ref a, .int lo, .int hi] ∧ H a = some (.lst (ws.map .str)) ∧ ws.Nodup ∧ (∀ z ∈ ws, Word z) ∧ lo ≤ (ws.length : Int) ∧ (ws.length : Int) ≤ hi ∧ ws.length ≤ 100 ∧
  ∀ H', Same H H' → Q (.bl true) H'
theorem scWordL : FnScope ["values", "least", "most", "seen", "value"] ["values", "least", "most"] (defScope sIsWordList) := ⟨rfl, rfl, rfl, by decide +kernel, rfl, by decide +kernel, by decide +kernel⟩
theorem inV_strs (z : Str) : ∀ ws : List Str, inV (.str z) (ws.map .str) = decide (z ∈ ws)
  | [] => rfl
  | x :: ws => by
    show (eqV (.str x) (.str z) || inV (.str z) (ws.map .str)) = _
    rw [inV_strs z ws]
    have e1 : eqV (.str x) (.str z) = decide (x = z) := by rfl
    rw [e1]
    by_cases e : x = z
    · subst e; simp
    · have e2 : ¬ z = x := fun q => e q.symm
      simp [e, e2]
theorem flat_strs (ws : List Str) : (ws.map V.str).all flatV = true := by
  rw [List.all_eq_true]
  intro v hv
  obtain ⟨z, _, rfl⟩ := List.mem_map.mp hv
  rfl
theorem map_get {α : Type} {f : α → V} {l : List α} {i : Nat} {v : V} (h : (l.map f)[i]? = some v) : ∃ x, l[i]? = some x ∧ v = f x := by
  rw [List.getElem?_map] at h
  cases e : l[i]? with
  | none => rw [e] at h; cases h
  | some x => rw [e] at h; exact ⟨x, rfl, (Option.some.inj h).symm⟩
theorem nd_not_take {α : Type} {l : List α} (h : l.Nodup) {i : Nat} {x : α} (hx : l[i]? = some x) : x ∉ l.take i := by
  intro hm
  obtain ⟨j, hj, e⟩ := List.mem_iff_getElem.mp hm
  rw [List.length_take] at hj
  rw [List.getElem_take] at e
  have h2 : l[j]? = some x := by rw [List.getElem?_eq_getElem (by omega), e]
  have := nd_ix h h2 hx
  omega
theorem take_succ' {α : Type} {l : List α} {i : Nat} {x : α} (hx : l[i]? = some x) : l.take (i + 1) = l.take i ++ [x] := by
  rw [List.take_add_one, hx]
  rfl
theorem ok_wordL {f1 : Addr} {fd1 : FuncData} (F : FnP K "is_word_list" "is_word_list" sIsWordList f fd) (B : Blt mg) (C : Cal P w K mg base "is_word" 1 ["value"] spIsWord f1 fd1) : FnOk P w K mg base CX0 2 f fd ["values", "least", "most"] spWordL := by
  refine F.ok scWordL (fun vs H Q E h => ?_) (fun cdv A outer s H vs Q E hr h => ?_)
  · obtain ⟨a, ws, lo, hi, rfl, _⟩ := h
    rfl
  · obtain ⟨a, ws, lo, hi, rfl, ha, hnd, hw, h1, h2, h100, k⟩ := h
    refine ⟨_, PSs.nox (pss_cons (ps_if (PW.pt (pw_or (pt_not (pt_val (pe_callB call_isiT (by rfl) B.isi (by decide +kernel) (pa_cons (pv 0) (pa_cons (pe_tup (pa_cons (pe_bltn (v := .ty "list") (by rfl) B.list (by decide +kernel) rfl) (pa_cons (pe_bltn (v := .ty "tuple") (by rfl) B.tuple (by decide +kernel) rfl) pa_nil))) pa_nil)))))
        (pw_or1 (pt_not (pt_chain op_le op_le (pv 1) (pe_callB call_len_seq (by rfl) B.len PySem.boot_len (pa_cons (pv 0) pa_nil)) (pv 2)))))) (pss_one (ps_ret pe_bl)) pss_nil)
      (pss_cons (ps_set (i := 3) scWordL.nd rfl (Or.inl rfl) (pe_lst pa_nil))
      (pss_cons (ps_for PassesOwn.never rfl (pi_list (pv 0)) (pg_name (i := 4) scWordL.nd rfl (Or.inl rfl))
        (pss_cons (ps_if (PW.pt (pw_or (pt_not (pt_val (pe_cal C hr (pa_cons (pv 4) pa_nil)))) (pw_or1 (pt_cmpR op_in_seq (pv 4) (pv 3) rfl)))) (pss_one (ps_ret pe_bl)) pss_nil)
        (pss_one (ps_expr (pe_bm PySem.F.plainAttrs_list PySem.F.slot_list_append PySem.F.type_list_append mt_append (pv 3) (pa_cons (pv 4) pa_nil))))))
      (pss_one (ps_ret pe_bl))))), ?_⟩
    refine ⟨_, rfl, by show 2 ≤ sizeLine; decide, fun t ht => ?_⟩
    have s1 : Same H (upd H t (.tup [.ty "list", .ty "tuple"])) := grow ht
    refine ⟨_, t, _, _, [.type "list", .type "tuple"], true, rfl, upd_same, .cons (.ty _) (.cons (.ty _) .nil), .base (.lst (s1 _ _ ha)), kitAny_cons kit_ll (fun z => by cases z) (fun _ => rfl), true, rfl, ?_⟩
    refine iteF ?_
    refine ⟨_, rfl, _, rfl, a, _, rfl, .inl (SqL.of (s1 _ _ ha)), _, _, rfl, rfl, _, rfl, iteY (by rw [List.length_map]; exact h1) ?_⟩
    refine ⟨_, rfl, _, _, rfl, rfl, _, rfl, iteNS (by rw [List.length_map]; exact h2) ?_⟩
    refine ⟨Nat.zero_le _, fun l hl => ?_⟩
    have s2 := grow' (o := .lst []) s1 hl
    have hal : a ≠ l := ne_of_none (s1 _ _ ha) hl
    have hHl : H l = Option.none := s1.free hl
    refine ⟨_, rfl, a, rfl, ⟨_, SqL.of (s2 _ _ ha)⟩, for_list (K := K) (a := a) (xs := ws.map .str) (fun i σ H' => ∃ v, σ = [some (.ref a), some (.int lo), some (.int hi), some (.ref l), v] ∧ Same H H' ∧ H' l = some (.lst ((ws.take i).map .str)))
      ⟨none, rfl, s2, upd_same⟩ (fun i σ H' _ ⟨_, _, s3, _⟩ => SqL.of (s3 _ _ ha)) ?_ ?_⟩
    · rintro i y σ H' hy ⟨v, rfl, s3, hL⟩
      obtain ⟨z, hz, rfl⟩ := map_get hy
      have hzm := List.mem_of_getElem? hz
      have hin : inV (.str z) ((ws.take i).map .str) = false := by
        rw [inV_strs]
        exact decide_eq_false (nd_not_take hnd hz)
      refine ⟨_, rfl, z, rfl, hw z hzm, true, rfl, iteF ?_⟩
      refine ⟨_, rfl, _, rfl, l, _, rfl, .inl (SqL.of hL), rfl, flat_strs _, _, rfl, ?_⟩
      show if inV (.str z) ((ws.take i).map .str) = true then _ else _
      rw [hin]
      refine iteF ?_
      refine ⟨_, rfl, .inl ⟨rfl, _, SqL.of hL⟩, _, rfl, l, _, _, rfl, rfl, hL, small1000 (by rw [List.length_map, List.length_take]; omega), ?_⟩
      refine ⟨_, rfl, fun b o e => ?_, ?_⟩
      · have : b ≠ l := fun q => by rw [q, hHl] at e; cases e
        rw [upd_ne this]
        exact s3 _ _ e
      · rw [upd_same, take_succ' hz, List.map_append]
        rfl
    · rintro σ H' ⟨v, rfl, s3, hL⟩
      exact k H' s3
/-! #### renumbered -/
/-- value's number by the dict of order o -/
def spRenum : Sp := fun vs H Q _ => ∃ (v : ON) (d : Addr) (o : List Nat), vs = [optV v, .ref d] ∧ Rd H d (.dK (numD o)) ∧ (∀ n, v = some n → n ∈ o) ∧ Q (optV (posN o v)) H
theorem scRenum : FnScope ["value", "numbers"] ["value", "numbers"] (defScope sRenumbered) := ⟨rfl, rfl, rfl, by decide +kernel, rfl, by decide +kernel, by decide +kernel⟩
theorem DGet.rd {H : Hp} {a : Addr} {kvs : List (Key × V)} {k : Key} (e : Rd H a (.dK kvs)) : DGet H a (kV k) (valV kvs k) := .inl ⟨kvs, k, e, rfl, rfl⟩
theorem ok_renum (F : FnP K "renumbered" "renumbered" sRenumbered f fd) : FnOk P w K mg base CX0 1 f fd ["value", "numbers"] spRenum := by
  refine F.ok scRenum (fun vs H Q E h => ?_) (fun cdv A outer s H vs Q E hr h => ?_)
  · obtain ⟨v, d, o, rfl, _⟩ := h
    rfl
  · obtain ⟨v, d, o, rfl, hd, hm, k⟩ := h
    have hu := hu_of hr
    refine ⟨_, PSs.nox (pss_cons (ps_if (pt_cmp (pc_isN (pv 0))) (pss_one (ps_ret pe_non)) pss_nil) (pss_one (ps_ret (pe_dget hu (pv 1) (pv 0) (fun _ _ => rfl))))), ?_⟩
    cases v with
    | none => exact ⟨_, rfl, _, rfl, iteY rfl k⟩
    | some n =>
      refine ⟨_, rfl, _, rfl, iteN (fun z => by cases z) ?_⟩
      have e := num_val (hm n rfl)
      refine ⟨_, rfl, _, rfl, d, .int ((o.idxOf n : Nat) : Int), rfl, ?_, k⟩
      rw [← e]
      exact DGet.rd (k := Sum.inl (n : Int)) hd
end
end K5
end partK5A
section partK5B
set_option Elab.async false
set_option linter.all false
set_option maxRecDepth 100000
set_option maxHeartbeats 4000000
/-! is_object, check_objects, check_names. -/
namespace K5
open PySem PySem.Spec PyProof.Rows L2
section
variable {P : Program} {w : World} {K : PySem.W.Frag} {mg : Str → Option Value} {base : Heap} {f : Addr} {fd : FuncData}
/-! #### is_object -/
def spIsObj : Sp := fun vs H Q _ => ∃ (x a : Addr) (ks fs : List Str) (ob : List ON) (c : Nat), vs = [.ref x, .ref a, .int (c : Int)] ∧ H x = some (.dK (ent ks ob)) ∧ H a = some (.lst (fs.map .str)) ∧ ob.length = ks.length ∧ fs.length = ks.length ∧ (∀ g ∈ fs, g ∈ ks) ∧ Bnd c ob ∧ Q (.bl true) H
theorem scIsObj : FnScope ["item", "fields", "count", "field", "value"] ["item", "fields", "count"] (defScope sIsObject) := ⟨rfl, rfl, rfl, by decide +kernel, rfl, by decide +kernel, by decide +kernel⟩
theorem look1_bd {ks : List Str} {ob : List ON} {g : Str} {c : Nat} (h : Bnd c ob) : ∀ n, look1 ks ob g = some n → n < c := fun n e => h n (look1_mem e)
theorem ok_isObj {f1 : Addr} {fd1 : FuncData} (F : FnP K "is_object" "is_object" sIsObject f fd) (B : Blt mg) (C : Cal P w K mg base "is_number_below" 2 ["value", "count"] spNumB f1 fd1) : FnOk P w K mg base CX0 3 f fd ["item", "fields", "count"] spIsObj := by
  refine F.ok scIsObj (fun vs H Q E h => ?_) (fun cdv A outer s H vs Q E hr h => ?_)
  · obtain ⟨x, a, ks, fs, ob, c, rfl, _⟩ := h
    rfl
  · obtain ⟨x, a, ks, fs, ob, c, rfl, hx, ha, hl, hfl, hfk, hb, k⟩ := h
    have hu := hu_of hr
    refine ⟨_, PSs.nox (pss_cons (ps_if (PW.pt (pw_or (pt_not (pt_val (pe_callB call_isi (by rfl) B.isi (by decide +kernel) (pa_cons (pv 0) (pa_cons (pe_bltn (v := .ty "dict") (by rfl) B.dict (by decide +kernel) rfl) pa_nil)))))
        (pw_or1 (pt_cmpR op_ne (pe_callB call_lenD (by rfl) B.len PySem.boot_len (pa_cons (pv 0) pa_nil)) (pe_callB call_len_seq (by rfl) B.len PySem.boot_len (pa_cons (pv 1) pa_nil)) (nomark _))))) (pss_one (ps_ret pe_bl)) pss_nil)
      (pss_cons (ps_for PassesOwn.never rfl (pi_list (pv 1)) (pg_name (i := 3) scIsObj.nd rfl (Or.inl rfl))
        (pss_cons (ps_if (pt_cmp (pc_dnotin hu (pv 3) (pv 0))) (pss_one (ps_ret pe_bl)) pss_nil)
        (pss_cons (ps_set (i := 4) scIsObj.nd rfl (Or.inl rfl) (pe_dget hu (pv 0) (pv 3) (fun _ _ => rfl)))
        (pss_one (ps_if (PW.pt (pw_and (pt_cmp (pc_notN (pv 4))) (pw_and1 (pt_not (pt_val (pe_cal C hr (pa_cons (pv 4) (pa_cons (pv 2) pa_nil)))))))) (pss_one (ps_ret pe_bl)) pss_nil)))))
      (pss_one (ps_ret pe_bl)))), ?_⟩
    refine ⟨_, rfl, _, _, _, _, true, rfl, .ty "dict", .base (.dK hx), kit_dd, true, rfl, iteF ?_⟩
    refine ⟨_, rfl, x, _, rfl, hx, _, rfl, a, _, rfl, .inl (SqL.of ha), rfl, _, rfl, iteNS (by rw [ent_len hl, List.length_map, hfl]) ?_⟩
    refine ⟨_, rfl, a, rfl, ⟨_, SqL.of ha⟩, for_list (K := K) (a := a) (xs := fs.map .str) (fun i σ H' => H' = H ∧ ∃ v u, σ = [some (.ref x), some (.ref a), some (.int (c : Int)), v, u]) ⟨rfl, none, none, rfl⟩ (fun i σ H' _ ⟨e, _⟩ => e ▸ SqL.of ha) ?_ ?_⟩
    · rintro i y σ H' hy ⟨rfl, v, u, rfl⟩
      obtain ⟨g, hg, rfl⟩ := map_get hy
      have hgk := hfk g (List.mem_of_getElem? hg)
      have e := ent_val hl hgk
      refine ⟨_, rfl, _, rfl, x, _, rfl, DGet.k (k := Sum.inr g) hx, _, rfl, ?_⟩
      rw [e]
      refine iteF ?_
      refine ⟨_, rfl, _, rfl, x, optV (look1 ks ob g), rfl, by rw [← e]; exact DGet.k (k := Sum.inr g) hx, ?_⟩
      refine ⟨_, rfl, _, rfl, ?_⟩
      cases z : look1 ks ob g with
      | none => exact iteF (iteF ⟨rfl, _, _, rfl⟩)
      | some n =>
        refine iteT ⟨_, rfl, _, rfl, (n : Int), (c : Int), rfl, by omega, by have := look1_bd hb n z; omega, true, rfl, iteF ⟨rfl, _, _, rfl⟩⟩
    · rintro σ H' ⟨rfl, v, u, rfl⟩
      exact k
/-! #### check_objects -/
def spChkO : Sp := fun vs H Q _ => ∃ (a b : Addr) (ks fs : List Str) (obs : List (List ON)) (as : List Addr), vs = [.ref a, .ref b] ∧ ObjsAt H a ks obs as ∧ H b = some (.lst (fs.map .str)) ∧ ObsOk ks obs.length obs ∧ fs.length = ks.length ∧ (∀ g ∈ fs, g ∈ ks) ∧ obs.length ≤ 200 ∧
  ∀ H', Same H H' → Q .non H'
theorem scChkO : FnScope ["objects", "fields", "at", "item"] ["objects", "fields"] (defScope sCheckObjects) := ⟨rfl, rfl, rfl, by decide +kernel, rfl, by decide +kernel, by decide +kernel⟩
theorem ok_chkO {f1 : Addr} {fd1 : FuncData} (F : FnP K "check_objects" "check_objects" sCheckObjects f fd) (B : Blt mg) (C : Cal P w K mg base "is_object" 3 ["item", "fields", "count"] spIsObj f1 fd1) : FnOk P w K mg base CX0 4 f fd ["objects", "fields"] spChkO := by
  refine F.ok scChkO (fun vs H Q E h => ?_) (fun cdv A outer s H vs Q E hr h => ?_)
  · obtain ⟨a, b, ks, fs, obs, as, rfl, _⟩ := h
    rfl
  · obtain ⟨a, b, ks, fs, obs, as, rfl, O, hb, ok, hfl, hfk, h200, k⟩ := h
    obtain ⟨tm, gm⟩ := B.mostO
    refine ⟨_, PSs.nox (pss_cons (ps_if (PW.pt (pw_or (pt_not (pt_val (pe_callB call_isi (by rfl) B.isi (by decide +kernel) (pa_cons (pv 0) (pa_cons (pe_bltn (v := .ty "list") (by rfl) B.list (by decide +kernel) rfl) pa_nil)))))
        (pw_or1 (pt_cmpR op_gt (pe_callB call_len_seq (by rfl) B.len PySem.boot_len (pa_cons (pv 0) pa_nil)) (pe_glob (v := .int 200) (by rfl) gm ⟨_, rfl⟩) (nomark _))))) (pss_one ps_never) pss_nil)
      (pss_one (ps_for PassesOwn.never rfl (pi_enum (by rfl) B.enum (pa_cons (pv 0) pa_nil)) (pg_tup rfl (pgs_cons (pg_name (i := 2) scChkO.nd rfl (.inl rfl)) (pgs_cons (pg_name (i := 3) scChkO.nd rfl (.inl rfl)) pgs_nil)))
        (pss_one (ps_if (pt_not (pt_val (pe_cal C hr (pa_cons (pv 3) (pa_cons (pv 1) (pa_cons (pe_callB call_len_seq (by rfl) B.len PySem.boot_len (pa_cons (pv 0) pa_nil)) pa_nil)))))) (pss_one ps_never) pss_nil))))), ?_⟩
    refine ⟨_, rfl, _, _, _, _, true, rfl, .ty "list", .base (.lst O.lst), kit_ll, true, rfl, iteF ?_⟩
    refine ⟨_, rfl, a, _, rfl, .inl (SqL.of O.lst), _, _, rfl, rfl, _, rfl, iteN (by rw [List.length_map, O.len]; omega) ?_⟩
    refine ⟨_, rfl, a, _, rfl, SqL.of O.lst, for_enum (K := K) (a := a) (xs := as.map .ref) (fun i σ H' => ∃ v u, σ = [some (.ref a), some (.ref b), v, u] ∧ Same H H') ⟨none, none, rfl, Same.refl H⟩ (fun i σ H' _ ⟨_, _, _, s1⟩ => SqL.of (s1 _ _ O.lst)) ?_ ?_⟩
    · rintro i y T σ H' hy hT ⟨v, u, rfl, s1⟩
      obtain ⟨x, hx, rfl⟩ := map_get hy
      have hi : i < obs.length := by rw [← O.len]; exact (List.getElem?_eq_some_iff.mp hx).1
      have hob := List.getElem?_eq_getElem hi
      have s2 := grow' (o := .tup [.int (i : Nat), .ref x]) s1 hT
      have hxx := s2 _ _ (O.at_ i x _ hx hob)
      obtain ⟨ok1, ok2⟩ := ok _ (List.mem_of_getElem? hob)
      refine ⟨T, _, rfl, SqT.of upd_same, rfl, _, _, rfl, _, _, rfl, rfl, ?_⟩
      refine ⟨_, rfl, _, rfl, _, rfl, a, _, rfl, .inl (SqL.of (s2 _ _ O.lst)), ?_⟩
      refine ⟨x, b, ks, fs, obs[i], obs.length, by rw [List.length_map, O.len]; rfl, hxx, s2 _ _ hb, ok1, hfl, hfk, ok2, true, rfl, iteF ⟨_, _, rfl, s2⟩⟩
    · rintro σ H' ⟨v, u, rfl, s1⟩
      exact k H' s1
/-! #### check_names -/
def spChkN : Sp := fun vs H Q _ => ∃ (d : Addr) (ns : List Str) (us : List ON) (c : Nat), vs = [.ref d, .int (c : Int)] ∧ H d = some (.dK (ent ns us)) ∧ us.length = ns.length ∧ ns.Nodup ∧ (∀ g ∈ ns, Word g) ∧ ns.length ≤ 6 ∧ Bnd c us ∧ ∀ H', Same H H' → Q .non H'
theorem scChkN : FnScope ["names", "count", "name", "value"] ["names", "count"] (defScope sCheckNames) := ⟨rfl, rfl, rfl, by decide +kernel, rfl, by decide +kernel, by decide +kernel⟩
theorem ent_get {ks : List Str} {vs : List ON} {i : Nat} {k : Key} {v : V} (h : (ent ks vs)[i]? = some (k, v)) : ∃ g ∈ ks, k = Sum.inr g := by
  have := ent_flat (List.mem_of_getElem? h)
  obtain ⟨_, g, hg, e⟩ := this
  exact ⟨g, hg, e⟩
theorem kV_keys {ks : List Str} {vs : List ON} (h : vs.length = ks.length) : (ent ks vs).map (fun kv => kV kv.1) = ks.map V.str := by
  have e : (ent ks vs).map (fun kv => kV kv.1) = ((ent ks vs).map (·.1)).map kV := by rw [List.map_map]; rfl
  rw [e, ent_keys h, List.map_map]
  rfl
theorem upd_frz {H : Hp} {d : Addr} {o u : HO} (h : H d = some u) : upd (upd H d o) d u = H := by
  rw [upd_upd]
  funext b
  unfold upd
  split
  · rename_i e; rw [e, h]
  · rfl
theorem ok_chkN {f1 f2 : Addr} {fd1 fd2 : FuncData} (F : FnP K "check_names" "check_names" sCheckNames f fd) (B : Blt mg) (C : Cal P w K mg base "is_number_below" 2 ["value", "count"] spNumB f1 fd1) (C2 : Cal P w K mg base "is_word" 1 ["value"] spIsWord f2 fd2) :
    FnOk P w K mg base CX0 3 f fd ["names", "count"] spChkN := by
  refine F.ok scChkN (fun vs H Q E h => ?_) (fun cdv A outer s H vs Q E hr h => ?_)
  · obtain ⟨d, ns, us, c, rfl, _⟩ := h
    rfl
  · obtain ⟨d, ns, us, c, rfl, hd, hl, hnd, hw, h6, hb, k⟩ := h
    obtain ⟨tm, gm⟩ := B.mostN
    have hu := hu_of hr
    have hr1 : Room 1 _ := hr.mono (by decide)
    refine ⟨_, PSs.nox (pss_cons (ps_if (PW.pt (pw_or (pt_not (pt_val (pe_callB call_isi (by rfl) B.isi (by decide +kernel) (pa_cons (pv 0) (pa_cons (pe_bltn (v := .ty "dict") (by rfl) B.dict (by decide +kernel) rfl) pa_nil)))))
        (pw_or1 (pt_cmpR op_gt (pe_callB call_lenD (by rfl) B.len PySem.boot_len (pa_cons (pv 0) pa_nil)) (pe_glob (v := .int 6) (by rfl) gm ⟨_, rfl⟩) (nomark _))))) (pss_one ps_never) pss_nil)
      (pss_cons (ps_lock (ps_for PassesOwn.never rfl (pi_keys (pv 0)) (pg_name (i := 2) scChkN.nd rfl (.inl rfl))
        (pss_one (ps_if (pt_not (pt_val (pe_cal C2 hr1 (pa_cons (pv 2) pa_nil)))) (pss_one ps_never) pss_nil))))
      (pss_one (ps_for PassesOwn.never rfl (pi_list (pe_callB cr_sortedS (by rfl) B.sorted (by decide +kernel) (pa_cons (pe_callTy (call_listD rfl) (by rfl) B.list (by decide +kernel) (pa_cons (pv 0) pa_nil)) pa_nil))) (pg_name (i := 2) scChkN.nd rfl (.inl rfl))
        (pss_cons (ps_set (i := 3) scChkN.nd rfl (Or.inl rfl) (pe_dget hu (pv 0) (pv 2) (fun _ _ => rfl)))
        (pss_one (ps_if (PW.pt (pw_and (pt_cmp (pc_notN (pv 3))) (pw_and1 (pt_not (pt_val (pe_cal C hr (pa_cons (pv 3) (pa_cons (pv 1) pa_nil)))))))) (pss_one ps_never) pss_nil))))))), ?_⟩
    refine ⟨_, rfl, _, _, _, _, true, rfl, .ty "dict", .base (.dK hd), kit_dd, true, rfl, iteF ?_⟩
    refine ⟨_, rfl, d, _, rfl, hd, _, _, rfl, rfl, _, rfl, iteN (by rw [ent_len hl]; omega) ?_⟩
    refine ⟨d, _, hd, trivial, fun od => ?_⟩
    refine ⟨_, rfl, d, od, rfl, .inl ⟨_, upd_same, for_keys (d := d) (o := od) (kvs := ent ns us) (fun i σ H' => H' = upd H d (.frz od (.dK (ent ns us))) ∧ ∃ v, σ = [some (.ref d), some (.int (c : Int)), v, none]) ⟨rfl, none, rfl⟩ (fun i σ H' _ ⟨e, _⟩ => e ▸ upd_same) ?_ ?_⟩⟩
    · rintro i kk v σ H' hk ⟨rfl, v0, rfl⟩
      obtain ⟨g, hg, rfl⟩ := ent_get hk
      exact ⟨_, rfl, g, rfl, hw g hg, true, rfl, iteF ⟨rfl, _, rfl⟩⟩
    · rintro σ H' ⟨rfl, v0, rfl⟩
      refine ⟨upd_same, ?_⟩
      rw [upd_frz hd]
      refine ⟨_, rfl, d, _, rfl, .inl hd, fun l hl' => ?_⟩
      rw [kV_keys hl]
      have s1 : Same H (upd H l (.lst (ns.map V.str))) := grow hl'
      refine ⟨l, ns, rfl, SqL.of upd_same, by omega, fun ys p hp hs hp' => ?_⟩
      have s2 := grow' (o := .lst (ys.map V.str)) s1 hp'
      refine ⟨p, rfl, ⟨_, SqL.of upd_same⟩, for_list (K := K) (a := p) (xs := ys.map .str) (fun i σ H' => H' = upd (upd H l (.lst (ns.map V.str))) p (.lst (ys.map V.str)) ∧ ∃ v u, σ = [some (.ref d), some (.int (c : Int)), v, u]) ⟨rfl, v0, none, rfl⟩ (fun i σ H' _ ⟨e, _⟩ => e ▸ SqL.of upd_same) ?_ ?_⟩
      · rintro i y σ H' hy ⟨rfl, v, u, rfl⟩
        obtain ⟨g, hg, rfl⟩ := map_get hy
        have hgk : g ∈ ns := hp.mem_iff.mp (List.mem_of_getElem? hg)
        have e := ent_val hl hgk
        refine ⟨_, rfl, _, rfl, d, optV (look1 ns us g), rfl, by rw [← e]; exact DGet.k (k := Sum.inr g) (s2 _ _ hd), ?_⟩
        refine ⟨_, rfl, _, rfl, ?_⟩
        cases z : look1 ns us g with
        | none => exact iteF (iteF ⟨rfl, _, _, rfl⟩)
        | some n =>
          refine iteT ⟨_, rfl, _, rfl, (n : Int), (c : Int), rfl, by omega, by have := look1_bd hb n z; omega, true, rfl, iteF ⟨rfl, _, _, rfl⟩⟩
      · rintro σ H' ⟨rfl, v, u, rfl⟩
        exact k _ s2
end
end K5
end partK5B
section partK5C
set_option Elab.async false
set_option linter.all false
set_option maxRecDepth 100000
set_option maxHeartbeats 4000000
set_option pp.maxSteps 1500
/-! meeting_numbers. -/
namespace K5
open PySem PySem.Spec PyProof.Rows L2
section
variable {P : Program} {w : World} {K : PySem.W.Frag} {mg : Str → Option Value} {base : Heap} {f : Addr} {fd : FuncData}
def spMeet (K : PySem.W.Frag) : Sp := fun vs H Q _ => ∃ (a b rl : Addr) (ks fs : List Str) (obs : List (List ON)) (as : List Addr) (roots : List ON), vs = [.ref a, .ref b, .ref rl] ∧ ObjsAt H a ks obs as ∧ SqT K H b (fs.map .str) ∧ H rl = some (.lst (roots.map optV)) ∧
  ObsOk ks obs.length obs ∧ (∀ g ∈ fs, g ∈ ks) ∧ Bnd obs.length roots ∧ obs.length ≤ 200 ∧ ∀ (d : Addr) (r : List Nat) (H' : Hp), Same H H' → H d = none → H' d = some (.dK (numD r)) → Fin' (valF ks obs) fs roots obs.length r → Q (.ref d) H'
theorem scMeet : FnScope ["objects", "fields", "roots", "numbers", "order", "root", "at", "field", "value"] ["objects", "fields", "roots"] (defScope sMeeting) := ⟨rfl, rfl, rfl, by decide +kernel, rfl, by decide +kernel, by decide +kernel⟩
/-- the dict of numbers and the list of the order stand, behind H -/
structure NumAt (H H' : Hp) (d l : Addr) (o : List Nat) (c : Nat) : Prop where
  same : Same H H'
  d0 : H d = none
  l0 : H l = none
  dd : H' d = some (.dK (numD o))
  ll : H' l = some (.lst (o.map fun n : Nat => V.int (n : Int)))
  nd : o.Nodup
  bd : ∀ n ∈ o, n < c
theorem NumAt.ne {H H' : Hp} {d l : Addr} {o : List Nat} {c : Nat} (N : NumAt H H' d l o c) : d ≠ l := ne_of N.dd N.ll (fun z => by cases z)
theorem NumAt.add {H H' : Hp} {d l : Addr} {o : List Nat} {c n : Nat} (N : NumAt H H' d l o c) (hn : n ∉ o) (hc : n < c) :
    NumAt H (upd (upd H' d (.dK (putK (numD o) (Sum.inl (n : Int)) (.int (o.length : Int))))) l (.lst ((o.map fun n : Nat => V.int (n : Int)) ++ [.int (n : Int)]))) d l (o ++ [n]) c := by
  refine ⟨fun b x e => ?_, N.d0, N.l0, ?_, ?_, ?_, ?_⟩
  · rw [upd_ne (ne_of_none e N.l0), upd_ne (ne_of_none e N.d0)]
    exact N.same _ _ e
  · rw [upd_ne N.ne, upd_same, num_put hn]
  · rw [upd_same, List.map_append]
    rfl
  · exact nd_app N.nd hn
  · intro x hx
    rcases List.mem_append.mp hx with z | z
    · exact N.bd x z
    · rw [List.mem_singleton.mp z]
      exact hc
theorem NumAt.len {H H' : Hp} {d l : Addr} {o : List Nat} {c : Nat} (N : NumAt H H' d l o c) : o.length ≤ c := nd_len N.nd N.bd
theorem objs_get {obs : List (List ON)} {as : List Addr} {a : Addr} {H : Hp} {ks : List Str} (O : ObjsAt H a ks obs as) {n : Nat} (h : n < obs.length) : ∃ x ob, as[n]? = some x ∧ obs[n]? = some ob ∧ H x = some (.dK (ent ks ob)) := by
  have h2 : n < as.length := by rw [O.len]; exact h
  exact ⟨as[n], obs[n], List.getElem?_eq_getElem h2, List.getElem?_eq_getElem h, O.at_ n _ _ (List.getElem?_eq_getElem h2) (List.getElem?_eq_getElem h)⟩
theorem ok_meet (F : FnP K "meeting_numbers" "meeting_numbers" sMeeting f fd) (B : Blt mg) : FnOk P w K mg base CX0 1 f fd ["objects", "fields", "roots"] (spMeet K) := by
  refine F.ok scMeet (fun vs H Q E h => ?_) (fun cdv A outer s H vs Q E hr h => ?_)
  · obtain ⟨a, b, rl, ks, fs, obs, as, roots, rfl, _⟩ := h
    rfl
  · obtain ⟨a, b, rl, ks, fs, obs, as, roots, rfl, O, hb, hrl, ok, hfk, hrb, h200, k⟩ := h
    have hu := hu_of hr
    have nd := scMeet.nd
    refine ⟨_, PSs.nox (pss_cons (ps_set (i := 3) nd rfl (Or.inl rfl) pe_dnewK) (pss_cons (ps_set (i := 4) nd rfl (Or.inl rfl) (pe_lst pa_nil))
      (pss_cons (ps_for PassesOwn.never rfl (pi_list (pv 2)) (pg_name (i := 5) nd rfl (Or.inl rfl))
        (pss_one (ps_if (PW.pt (pw_and (pt_cmp (pc_notN (pv 5))) (pw_and1 (pt_cmp (pc_dnotin hu (pv 5) (pv 3))))))
          (pss_cons (ps_dput hu (pv 3) (pv 5) (pe_callB call_len_seq (by rfl) B.len PySem.boot_len (pa_cons (pv 4) pa_nil)) rfl)
          (pss_one (ps_expr (pe_bm PySem.F.plainAttrs_list PySem.F.slot_list_append PySem.F.type_list_append mt_append (pv 4) (pa_cons (pv 5) pa_nil))))) pss_nil)))
      (pss_cons (ps_set (i := 6) nd rfl (Or.inl rfl) pe_int)
      (pss_cons (ps_while PassesOwn.never (pt_cmpR op_lt (pv 6) (pe_callB call_len_seq (by rfl) B.len PySem.boot_len (pa_cons (pv 4) pa_nil)) (nomark _))
        (pss_cons (ps_for PassesOwn.never rfl (pi_tup (pv 1)) (pg_name (i := 7) nd rfl (Or.inl rfl))
          (pss_cons (ps_set (i := 8) nd rfl (Or.inl rfl) (pe_dget hu (pe_ix ix_list (pv 0) (pe_ix ix_list (pv 4) (pv 6) (fun _ _ => rfl)) (fun _ _ => rfl)) (pv 7) (fun _ _ => rfl)))
          (pss_one (ps_if (PW.pt (pw_and (pt_cmp (pc_notN (pv 8))) (pw_and1 (pt_cmp (pc_dnotin hu (pv 8) (pv 3))))))
            (pss_cons (ps_dput hu (pv 3) (pv 8) (pe_callB call_len_seq (by rfl) B.len PySem.boot_len (pa_cons (pv 4) pa_nil)) rfl)
            (pss_one (ps_expr (pe_bm PySem.F.plainAttrs_list PySem.F.slot_list_append PySem.F.type_list_append mt_append (pv 4) (pa_cons (pv 8) pa_nil))))) pss_nil))))
        (pss_one (ps_aug (i := 6) nd rfl (.inl rfl) pe_int ip_add))))
      (pss_one (ps_ret (pv 3)))))))), ?_⟩
    -- numbers = {}; order = []
    intro d hd
    have s1 : Same H (upd H d (.dK [])) := grow hd
    refine ⟨Nat.zero_le _, fun l hl => ?_⟩
    have s2 := grow' (o := .lst []) s1 hl
    have hl0 : H l = Option.none := s1.free hl
    have hdl : d ≠ l := fun e => by rw [← e, upd_same] at hl; cases hl
    have N0 : NumAt H (upd (upd H d (.dK [])) l (.lst [])) d l [] obs.length := ⟨s2, hd, hl0, by rw [upd_ne hdl, upd_same]; rfl, upd_same, List.nodup_nil, fun _ h => by cases h⟩
    -- for root in roots
    refine ⟨_, rfl, rl, rfl, ⟨_, SqL.of (s2 _ _ hrl)⟩, for_list (K := K) (a := rl) (xs := roots.map optV) (fun i σ H' => ∃ v, σ = [some (.ref a), some (.ref b), some (.ref rl), some (.ref d), some (.ref l), v, none, none, none] ∧ NumAt H H' d l ((roots.take i).foldl addV []) obs.length)
      ⟨none, rfl, N0⟩ (fun i σ H' _ ⟨_, _, N⟩ => SqL.of (N.same _ _ hrl)) ?_ ?_⟩
    · rintro i y σ H' hy ⟨v, rfl, N⟩
      obtain ⟨rt, hrt, rfl⟩ := map_get hy
      have e1 : (roots.take (i + 1)).foldl addV [] = addV ((roots.take i).foldl addV []) rt := by
        rw [take_succ' hrt, List.foldl_append]
        rfl
      generalize ho : (roots.take i).foldl addV [] = o at N e1
      refine ⟨_, rfl, _, rfl, ?_⟩
      cases rt with
      | none => exact iteF (iteF ⟨_, rfl, by rw [e1]; exact N⟩)
      | some n =>
        refine iteT ⟨_, rfl, _, rfl, d, _, rfl, DGet.k (k := Sum.inl (n : Int)) N.dd, _, rfl, ?_⟩
        by_cases hn : n ∈ o
        · rw [num_val hn]
          exact iteF ⟨_, rfl, by rw [e1, addV_in hn]; exact N⟩
        · rw [num_no hn]
          have hc : n < obs.length := hrb n (List.mem_of_getElem? hrt)
          have hlen := N.len
          refine iteT ⟨_, rfl, l, _, rfl, .inl (SqL.of N.ll), _, rfl, _, rfl, d, _, rfl, DPut.k (k := Sum.inl (n : Int)) N.dd (small1000 (by rw [num_len]; omega)), ?_⟩
          refine ⟨_, rfl, .inl ⟨rfl, _, SqL.of (Eq.trans (upd_ne N.ne.symm) N.ll)⟩, _, rfl, l, _, _, rfl, rfl, Eq.trans (upd_ne N.ne.symm) N.ll, small1000 (by rw [List.length_map]; omega), ?_⟩
          refine ⟨_, rfl, ?_⟩
          rw [e1, addV_out hn, List.length_map]
          exact N.add hn hc
    · rintro σ H' ⟨v, rfl, N⟩
      rw [List.length_map, List.take_length] at N
      generalize ho : roots.foldl addV [] = o0 at N
      have hrts : ∀ x ∈ roots, ∀ n, x = some n → n ∈ o0 := fun x hx n e => by
        rw [← ho]
        exact foldA_has (x := id) (fs := roots) (o := []) hx e
      -- at = 0; while
      refine ⟨fun m σ H' => ∃ (at_ : Nat) (o : List Nat) (v5 v7 v8 : Option V), σ = [some (.ref a), some (.ref b), some (.ref rl), some (.ref d), some (.ref l), v5, some (.int (at_ : Int)), v7, v8] ∧ NumAt H H' d l o obs.length ∧ m = obs.length - at_ ∧ at_ ≤ o.length ∧
        (∀ x ∈ o0, x ∈ o) ∧ (∀ r, Runs (valF ks obs) fs at_ o r → Runs (valF ks obs) fs 0 o0 r) ∧ (∀ (j n : Nat), j < at_ → o[j]? = some n → ∀ g ∈ fs, ∀ m, valF ks obs n g = some m → m ∈ o), ⟨_, 0, o0, v, none, none, rfl, N, rfl, Nat.zero_le _, fun _ h => h, fun _ h => h, fun j n h => absurd h (Nat.not_lt_zero j)⟩, ?_⟩
      rintro m σ H1 ⟨at_, o, v5, v7, v8, rfl, N, rfl, hat, hsub, hruns, hcl⟩
      refine ⟨_, rfl, _, rfl, l, _, rfl, .inl (SqL.of N.ll), _, _, rfl, rfl, _, rfl, ?_⟩
      by_cases hlt : at_ < o.length
      · refine iteY (by rw [List.length_map]; omega) ?_
        have hlen := N.len
        have hn := List.getElem?_eq_getElem hlt
        generalize hnn : o[at_] = n at hn
        have hnc : n < obs.length := N.bd n (List.mem_of_getElem? hn)
        refine ⟨fun σ' H' => ∃ (at2 : Nat) (o2 : List Nat) (v7 v8 : Option V), σ' = [some (.ref a), some (.ref b), some (.ref rl), some (.ref d), some (.ref l), v5, some (.int (at2 : Int)), v7, v8] ∧ NumAt H H' d l o2 obs.length ∧ at2 = at_ + 1 ∧ o2 = scan (valF ks obs) fs o n, ?_, ?_⟩
        · rintro σ' H' ⟨at2, o2, v7, v8, rfl, N2, rfl, rfl⟩
          refine ⟨obs.length - (at_ + 1), by omega, at_ + 1, _, v5, v7, v8, rfl, N2, rfl, Nat.le_trans hlt foldA_len, fun x hx => foldA_sub (hsub x hx), fun r hr2 => hruns r (.step hn hr2), fun j n2 hj hn2 g hg m2 hm2 => ?_⟩
          by_cases hj2 : j < at_
          · have h3 : o[j]? = some o[j] := List.getElem?_eq_getElem (by omega)
            have h4 : (scan (valF ks obs) fs o n)[j]? = some o[j] := foldA_pre h3
            rw [h4] at hn2
            have := Option.some.inj hn2
            subst this
            exact foldA_sub (hcl j _ hj2 h3 g hg m2 hm2)
          · have hj3 : j = at_ := by omega
            subst hj3
            have h4 : (scan (valF ks obs) fs o n)[j]? = some n := foldA_pre hn
            rw [h4] at hn2
            have := Option.some.inj hn2
            subst this
            exact foldA_has hg hm2
        · refine ⟨_, rfl, b, rfl, ⟨_, Same.seqT N.same hb⟩, for_tup (K := K) (a := b) (xs := fs.map .str) (fun i σ H' => ∃ v7 v8, σ = [some (.ref a), some (.ref b), some (.ref rl), some (.ref d), some (.ref l), v5, some (.int (at_ : Int)), v7, v8] ∧ NumAt H H' d l (foldA (valF ks obs n) (fs.take i) o) obs.length)
            ⟨v7, v8, rfl, N⟩ (fun i σ H' _ ⟨_, _, _, N'⟩ => Same.seqT N'.same hb) ?_ ?_⟩
          · rintro i y σ H' hy ⟨v7, v8, rfl, N'⟩
            obtain ⟨g, hg, rfl⟩ := map_get hy
            have hgk := hfk g (List.mem_of_getElem? hg)
            have e1 : foldA (valF ks obs n) (fs.take (i + 1)) o = addV (foldA (valF ks obs n) (fs.take i) o) (valF ks obs n g) := by
              rw [take_succ' hg, foldA_snoc]
            have hon : (foldA (valF ks obs n) (fs.take i) o)[at_]? = some n := foldA_pre hn
            generalize ho2 : foldA (valF ks obs n) (fs.take i) o = o2 at N' e1 hon
            obtain ⟨x, ob, hx, hob, hHx⟩ := objs_get O hnc
            have eo := ent_val (ok ob (List.mem_of_getElem? hob)).1 hgk
            have ev := valF_at (fs := ks) (f := g) hob
            refine ⟨_, rfl, _, rfl, _, rfl, l, _, _, _, rfl, rfl, SqL.of N'.ll, at_of (j := at_) (v := .int (n : Int)) rfl (by rw [List.getElem?_map, hon]; rfl), ?_⟩
            refine ⟨a, _, _, _, rfl, rfl, SqL.of (N'.same _ _ O.lst), at_of (j := n) (v := .ref x) rfl (by rw [List.getElem?_map, hx]; rfl), ?_⟩
            refine ⟨_, rfl, x, optV (look1 ks ob g), rfl, by rw [← eo]; exact DGet.k (k := Sum.inr g) (N'.same _ _ hHx), ?_⟩
            refine ⟨_, rfl, _, rfl, ?_⟩
            rw [ev] at e1
            cases z : look1 ks ob g with
            | none => exact iteF (iteF ⟨_, _, rfl, by rw [e1, z]; exact N'⟩)
            | some m2 =>
              refine iteT ⟨_, rfl, _, rfl, d, _, rfl, DGet.k (k := Sum.inl (m2 : Int)) N'.dd, _, rfl, ?_⟩
              by_cases hm2 : m2 ∈ o2
              · rw [num_val hm2]
                exact iteF ⟨_, _, rfl, by rw [e1, z, addV_in hm2]; exact N'⟩
              · rw [num_no hm2]
                have hc : m2 < obs.length := valF_bd ok (ev.trans z)
                have hlen2 := N'.len
                refine iteT ⟨_, rfl, l, _, rfl, .inl (SqL.of N'.ll), _, rfl, _, rfl, d, _, rfl, DPut.k (k := Sum.inl (m2 : Int)) N'.dd (small1000 (by rw [num_len]; omega)), ?_⟩
                refine ⟨_, rfl, .inl ⟨rfl, _, SqL.of (Eq.trans (upd_ne N'.ne.symm) N'.ll)⟩, _, rfl, l, _, _, rfl, rfl, Eq.trans (upd_ne N'.ne.symm) N'.ll, small1000 (by rw [List.length_map]; omega), ?_⟩
                refine ⟨_, _, rfl, ?_⟩
                rw [e1, z, addV_out hm2, List.length_map]
                exact N'.add hm2 hc
          · rintro σ H' ⟨v7, v8, rfl, N'⟩
            rw [List.length_map, List.take_length] at N'
            exact ⟨_, rfl, _, _, rfl, rfl, at_ + 1, _, v7, v8, rfl, N', rfl, rfl⟩
      · refine iteN (by rw [List.length_map]; omega) ?_
        refine ⟨_, rfl, k d o H1 N.same N.d0 N.dd ⟨by rw [ho]; exact hruns o (.stop (by omega)), N.nd, N.bd, fun x hx n e => hsub n (hrts x hx n e), fun x hx g hg m2 hm2 => ?_⟩⟩
        obtain ⟨j, hj, e⟩ := List.mem_iff_getElem.mp hx
        exact hcl j x (by omega) (by rw [List.getElem?_eq_getElem hj, e]) g hg m2 hm2
end
end K5
end partK5C
section partK5D
set_option Elab.async false
set_option linter.all false
set_option maxRecDepth 100000
set_option maxHeartbeats 4000000
set_option pp.maxSteps 1500
/-! The law's draws: draw, pick, value. -/
namespace K5
open PySem PySem.Spec PyProof.Rows L2
section
variable {P : Program} {w : World} {K : PySem.W.Frag} {mg : Str → Option Value} {base : Heap} {f : Addr} {fd : FuncData}
theorem ixN_nat {n j : Nat} (hj : j < n) : ixN n (j : Int) = some j := by
  unfold ixN
  rw [if_pos (by omega), if_pos (by omega)]
  simp
/-! #### _law_draw -/
def spDraw : Sp := fun vs H Q _ => ∃ (p c : Addr) (lim : Nat), vs = [.ref p, .int (lim : Int)] ∧ Pool H p c ∧ 0 < lim ∧ lim ≤ 1000 ∧ ∀ (n : Nat) (H' : Hp), n < lim → Pool H' p c → Off p c H H' → Q (.int (n : Int)) H'
theorem scDraw : FnScope ["_law_pool", "_law_limit", "_law_cells", "_law_at", "_law_digit", "_law_cell", "_law_number"] ["_law_pool", "_law_limit"] (defScope sDraw) := ⟨rfl, rfl, rfl, by decide +kernel, rfl, by decide +kernel, by decide +kernel⟩
theorem mod_nat {x : Int} {lim : Nat} (h : 0 < lim) : ∃ n : Nat, n < lim ∧ x % (lim : Int) = (n : Int) := by
  have h1 : 0 ≤ x % (lim : Int) := Int.emod_nonneg _ (by omega)
  have h2 : x % (lim : Int) < (lim : Int) := Int.emod_lt_of_pos _ (by omega)
  exact ⟨(x % (lim : Int)).toNat, by omega, by omega⟩
theorem off2 {p c : Addr} {H H' : Hp} {o : HO} (h : Off p c H H') : Off p c H (upd H' p o) := fun b x h1 h2 e => by rw [upd_ne h1]; exact h b x h1 h2 e
theorem off3 {p c : Addr} {H H' : Hp} {o : HO} (h : Off p c H H') : Off p c H (upd H' c o) := fun b x h1 h2 e => by rw [upd_ne h2]; exact h b x h1 h2 e
theorem ok_draw (F : FnP K "_law_draw" "_law_draw" sDraw f fd) (B : Blt mg) : FnOk P w K mg base CX0 1 f fd ["_law_pool", "_law_limit"] spDraw := by
  refine F.ok scDraw (fun vs H Q E h => ?_) (fun cdv A outer s H vs Q E hr h => ?_)
  · obtain ⟨p, c, lim, rfl, _⟩ := h
    rfl
  · obtain ⟨p, c, lim, rfl, hP, h0, h1000, k⟩ := h
    have nd := scDraw.nd
    have hpc := hP.ne
    obtain ⟨ns, i, cnt, hp, hc⟩ := hP
    refine ⟨_, PSs.nox (pss_cons (ps_set (i := 2) nd rfl (Or.inl rfl) (pe_ix ix_list (pv 0) pe_int (fun _ _ => rfl)))
      (pss_cons (ps_set (i := 3) nd rfl (Or.inl rfl) (pe_ix ix_list (pv 0) pe_int (fun _ _ => rfl)))
      (pss_cons (ps_asg (pe_op op_add (pe_ix ix_list (pv 0) pe_int (fun _ _ => rfl)) pe_int) (pg_sub (pv 0) pe_int set_list))
      (C8.pss_cut (ps_if (PW.pt (pw_and (pt_cmpR op_lt (pv 3) (pe_callB call_len_seq (by rfl) B.len PySem.boot_len (pa_cons (pv 2) pa_nil)) (nomark _)) (pw_and1 (pt_cmpR op_ge (pe_ix ix_list (pv 2) (pv 3) (fun _ _ => rfl)) (pe_op op_pow pe_int pe_int) (nomark _)))))
        (pss_cons (ps_set (i := 4) nd rfl (Or.inl rfl) (pe_op op_mod (pe_callTy call_int1 (by rfl) B.int (by decide +kernel) (pa_cons (pe_ix ix_list (pv 2) (pv 3) (fun _ _ => rfl)) pa_nil)) (pv 1)))
        (pss_cons (ps_asg (pe_op op_fdiv (pe_ix ix_list (pv 2) (pv 3) (fun _ _ => rfl)) (pv 1)) (pg_sub (pv 2) (pv 3) set_list))
        (pss_cons (ps_if (pt_cmpR op_lt (pe_ix ix_list (pv 2) (pv 3) (fun _ _ => rfl)) (pe_op op_pow pe_int pe_int) (nomark _)) (pss_one (ps_asg (pe_op op_add (pv 3) pe_int) (pg_sub (pv 0) pe_int set_list))) pss_nil)
        (pss_one (ps_ret (pv 4)))))) pss_nil)
      (pss_cons (ps_asg (pe_op op_add (pv 3) pe_int) (pg_sub (pv 0) pe_int set_list))
      (pss_cons (ps_set (i := 5) nd rfl (Or.inl rfl) pe_int)
      (C8.pss_cut (ps_if (pt_cmpR op_gt (pe_callB call_len_seq (by rfl) B.len PySem.boot_len (pa_cons (pv 2) pa_nil)) pe_int (nomark _)) (pss_one (ps_set (i := 5) nd rfl (Or.inl rfl) (pe_ix ix_list (pv 2) (pe_op op_mod (pv 3) (pe_callB call_len_seq (by rfl) B.len PySem.boot_len (pa_cons (pv 2) pa_nil))) (fun _ _ => rfl)))) pss_nil)
      (pss_cons (ps_set (i := 6) nd rfl (Or.inl rfl) (pe_op op_mod (pe_op op_mul (pe_callTy call_int1 (by rfl) B.int (by decide +kernel) (pa_cons (pe_op op_add (pe_op op_add (pe_op op_mod (pe_callTy call_int1 (by rfl) B.int (by decide +kernel) (pa_cons (pv 5) pa_nil)) pe_int)
          (pe_op op_mul pe_int (pe_ix ix_list (pv 0) pe_int (fun _ _ => rfl)))) pe_int) pa_nil)) pe_int) pe_int))
      (pss_cons (ps_set (i := 6) nd rfl (Or.inl rfl) (pe_op op_mod (pe_callTy call_int1 (by rfl) B.int (by decide +kernel) (pa_cons (pe_op op_mul (pv 6) (pe_op op_add (pe_op op_fdiv (pv 6) pe_int) pe_int)) pa_nil)) pe_int))
      (pss_cons (ps_set (i := 6) nd rfl (Or.inl rfl) (pe_op op_mod (pe_callTy call_int1 (by rfl) B.int (by decide +kernel) (pa_cons (pe_op op_mul (pv 6) (pe_op op_add (pe_op op_fdiv (pv 6) pe_int) pe_int)) pa_nil)) pe_int))
      (pss_one (ps_ret (pe_op op_mod (pe_callTy call_int1 (by rfl) B.int (by decide +kernel) (pa_cons (pe_op op_fdiv (pv 6) pe_int) pa_nil)) (pv 1)))))))))))))), ?_⟩
    -- cells = pool[0]; at = pool[1]; pool[2] = pool[2] + 1
    refine ⟨_, rfl, p, _, _, _, rfl, rfl, SqL.of hp, at_of (j := 0) rfl rfl, ?_⟩
    refine ⟨_, rfl, p, _, _, _, rfl, rfl, SqL.of hp, at_of (j := 1) rfl rfl, ?_⟩
    refine ⟨_, rfl, p, _, _, _, rfl, rfl, SqL.of hp, at_of (j := 2) rfl rfl, _, _, rfl, rfl, ?_⟩
    refine ⟨_, rfl, p, _, _, 2, rfl, rfl, hp, rfl, ?_⟩
    generalize hH1 : upd H p (.lst ([V.ref c, V.int (i : Int), V.int cnt].set 2 (V.int (cnt + 1)))) = H1
    have hp1 : H1 p = some (.lst [.ref c, .int (i : Int), .int (cnt + 1)]) := by rw [← hH1, upd_same]; rfl
    have hc1 : H1 c = some (.lst (ns.map .int)) := by rw [← hH1, upd_ne hpc.symm]; exact hc
    have o1 : Off p c H H1 := by rw [← hH1]; exact off2 Off.refl
    clear hH1
    have nw : ∀ x : Int, x % 2147483647 < 2147483647 ∧ 0 ≤ x % 2147483647 := fun x => ⟨Int.emod_lt_of_pos _ (by decide), Int.emod_nonneg _ (by decide)⟩
    refine ⟨fun σ' H' => H1 = H' ∧ σ' = [some (.ref p), some (.int (lim : Int)), some (.ref c), some (.int (i : Int)), none, none, none], ?_, ?_⟩
    · refine ⟨_, rfl, _, rfl, c, _, rfl, .inl (SqL.of hc1), _, _, rfl, rfl, _, rfl, ?_⟩
      by_cases hi : i < ns.length
      · refine iteY (by rw [List.length_map]; omega) ?_
        have hx := List.getElem?_eq_getElem hi
        generalize ns[i] = x at hx
        have hxm : (ns.map V.int)[i]? = some (V.int x) := by rw [List.getElem?_map, hx]; rfl
        refine ⟨_, rfl, _, rfl, c, _, _, _, rfl, rfl, SqL.of hc1, at_of (j := i) rfl hxm, _, _, rfl, rfl, ⟨by decide, by decide, by decide⟩, _, _, rfl, rfl, _, rfl, ?_⟩
        refine ite2 (fun _ => ?_) (fun _ => ?_)
        · -- the digit
          refine ⟨_, rfl, _, rfl, c, _, _, _, rfl, rfl, SqL.of hc1, at_of (j := i) rfl hxm, .inl ⟨_, rfl, _, rfl, _, _, rfl, rfl, (by show (0 : Int) < (lim : Int); omega), ?_⟩⟩
          refine ⟨_, rfl, _, rfl, c, _, _, _, rfl, rfl, SqL.of hc1, at_of (j := i) rfl hxm, _, rfl, _, _, rfl, rfl, ⟨by omega, by omega⟩, _, rfl, _, rfl, c, _, _, i, rfl, rfl, hc1, ixN_nat (by rw [List.length_map]; exact hi), ?_⟩
          have hset : (ns.map V.int).set i (V.int (x / (lim : Int))) = (ns.set i (x / (lim : Int))).map V.int := (List.map_set ..).symm
          rw [hset]
          generalize hH2 : upd H1 c (.lst ((ns.set i (x / (lim : Int))).map V.int)) = H2
          have hp2 : H2 p = some (.lst [.ref c, .int (i : Int), .int (cnt + 1)]) := by rw [← hH2, upd_ne hpc]; exact hp1
          have hc2 : H2 c = some (.lst ((ns.set i (x / (lim : Int))).map .int)) := by rw [← hH2, upd_same]
          have o2 : Off p c H H2 := by rw [← hH2]; exact off3 o1
          clear hH2
          have hxm2 : ((ns.set i (x / (lim : Int))).map V.int)[i]? = some (V.int (x / (lim : Int))) := by rw [List.getElem?_map, List.getElem?_set_self hi]; rfl
          obtain ⟨n, hn, en⟩ := mod_nat (x := x) h0
          refine ⟨_, rfl, _, rfl, c, _, _, _, rfl, rfl, SqL.of hc2, at_of (j := i) rfl hxm2, _, _, rfl, rfl, ⟨by decide, by decide, by decide⟩, _, _, rfl, rfl, _, rfl, ?_⟩
          refine ite2 (fun _ => ?_) (fun _ => ?_)
          · refine ⟨_, rfl, _, _, rfl, rfl, _, rfl, p, _, _, 1, rfl, rfl, hp2, rfl, ?_⟩
            refine ⟨_, rfl, qi en (k n _ hn ⟨_, i + 1, _, upd_same, by rw [upd_ne hpc.symm]; exact hc2⟩ (off2 o2))⟩
          · refine ⟨_, rfl, qi en (k n _ hn ⟨_, i, _, hp2, hc2⟩ o2)⟩
        · exact ⟨rfl, rfl⟩
      · exact iteN (by rw [List.length_map]; omega) ⟨rfl, rfl⟩
    · rintro σ' H' ⟨rfl, rfl⟩
      refine ⟨_, rfl, _, _, rfl, rfl, _, rfl, p, _, _, 1, rfl, rfl, hp1, rfl, ?_⟩
      generalize hH2 : upd H1 p (.lst ([V.ref c, V.int (i : Int), V.int (cnt + 1)].set 1 (V.int ((i : Int) + 1)))) = H2
      have hp2 : H2 p = some (.lst [.ref c, .int ((i + 1 : Nat) : Int), .int (cnt + 1)]) := by rw [← hH2, upd_same]; rfl
      have hc2 : H2 c = some (.lst (ns.map .int)) := by rw [← hH2, upd_ne hpc.symm]; exact hc1
      have o2 : Off p c H H2 := by rw [← hH2]; exact off2 o1
      clear hH2
      refine ⟨fun σ' H' => H2 = H' ∧ ∃ z : Int, σ' = [some (.ref p), some (.int (lim : Int)), some (.ref c), some (.int (i : Int)), none, some (.int z), none], ?_, ?_⟩
      · refine ⟨_, rfl, c, _, rfl, .inl (SqL.of hc2), _, _, rfl, rfl, _, rfl, ?_⟩
        refine ite2 (fun hg => ?_) (fun _ => ?_)
        · have hg2 : 0 < (ns.map V.int).length := by
            have := of_decide_eq_true hg
            omega
          refine ⟨_, rfl, _, rfl, _, rfl, c, _, rfl, .inl (SqL.of hc2), _, _, rfl, rfl, (by show (0 : Int) < _; omega), ?_⟩
          obtain ⟨j, hj, ej⟩ := mod_nat (x := (i : Int)) hg2
          have hj2 : j < ns.length := by rw [List.length_map] at hj; exact hj
          refine ⟨c, _, _, .int ns[j], rfl, rfl, SqL.of hc2, at_of (j := j) ej (by rw [List.getElem?_map, List.getElem?_eq_getElem hj2]; rfl), rfl, _, rfl⟩
        · exact ⟨rfl, 0, rfl⟩
      · rintro σ' H' ⟨rfl, z, rfl⟩
        refine ⟨_, rfl, .inl ⟨_, rfl, _, _, rfl, rfl, (by show (0 : Int) < 2147483629; decide), ?_⟩⟩
        refine ⟨_, rfl, p, _, _, _, rfl, rfl, SqL.of hp2, at_of (j := 2) rfl rfl, _, _, rfl, rfl, .inl ⟨by decide, by decide⟩, _, _, rfl, rfl, _, _, rfl, rfl, .inl ⟨_, rfl, _, _, rfl, rfl, .inr ⟨by decide, by decide⟩, _, _, rfl, rfl, (by show (0 : Int) < 2147483647; decide), ?_⟩⟩
        generalize hn1 : ((z % 2147483629 + 7919 * (cnt + 1) + 1) * 48271) % 2147483647 = n1
        have b1 := nw ((z % 2147483629 + 7919 * (cnt + 1) + 1) * 48271)
        rw [hn1] at b1
        refine ⟨_, rfl, _, rfl, _, _, rfl, rfl, ⟨by decide, by decide⟩, _, _, rfl, rfl, _, _, rfl, rfl, .inl ⟨by omega, by omega⟩, .inl ⟨_, rfl, _, _, rfl, rfl, (by show (0 : Int) < 2147483647; decide), ?_⟩⟩
        have b2 := nw (n1 * (n1 / 1009 + 69621))
        generalize hn2 : (n1 * (n1 / 1009 + 69621)) % 2147483647 = n2 at b2
        refine ⟨_, rfl, _, rfl, _, _, rfl, rfl, ⟨by decide, by decide⟩, _, _, rfl, rfl, _, _, rfl, rfl, .inl ⟨by omega, by omega⟩, .inl ⟨_, rfl, _, _, rfl, rfl, (by show (0 : Int) < 2147483399; decide), ?_⟩⟩
        generalize hn3 : (n2 * (n2 / 2003 + 40692)) % 2147483399 = n3
        obtain ⟨n, hn, en⟩ := mod_nat (x := n3 / 16) h0
        exact ⟨_, rfl, _, _, rfl, rfl, ⟨by decide, by decide⟩, .inl ⟨_, rfl, _, rfl, _, _, rfl, rfl, (by show (0 : Int) < (lim : Int); omega), qi (by rw [hn1, hn2, hn3, en]) (k n _ hn ⟨_, i + 1, _, hp2, hc2⟩ o2)⟩⟩
/-! #### _law_pick -/
def spPick : Sp := fun vs H Q _ => ∃ (p c r : Addr) (xs : List V), vs = [.ref p, .ref r] ∧ Pool H p c ∧ Apart p c r ∧ H r = some (.lst xs) ∧ 0 < xs.length ∧ xs.length ≤ 1000 ∧ ∀ (x : V) (H' : Hp), x ∈ xs → Pool H' p c → Off p c H H' → Q x H'
theorem scPick : FnScope ["_law_pool", "_law_row"] ["_law_pool", "_law_row"] (defScope sPick) := ⟨rfl, rfl, rfl, by decide +kernel, rfl, by decide +kernel, by decide +kernel⟩
theorem ok_pick {f1 : Addr} {fd1 : FuncData} (F : FnP K "_law_pick" "_law_pick" sPick f fd) (B : Blt mg) (C : Cal P w K mg base "_law_draw" 1 ["_law_pool", "_law_limit"] spDraw f1 fd1) : FnOk P w K mg base CX0 2 f fd ["_law_pool", "_law_row"] spPick := by
  refine F.ok scPick (fun vs H Q E h => ?_) (fun cdv A outer s H vs Q E hr h => ?_)
  · obtain ⟨p, c, r, xs, rfl, _⟩ := h
    rfl
  · obtain ⟨p, c, r, xs, rfl, hP, ap, hr', h0, h1000, k⟩ := h
    refine ⟨_, PSs.nox (pss_one (ps_ret (pe_ix ix_list (pv 1) (pe_cal C hr (pa_cons (pv 0) (pa_cons (pe_callB call_len_seq (by rfl) B.len PySem.boot_len (pa_cons (pv 1) pa_nil)) pa_nil))) (fun _ _ => rfl)))), ?_⟩
    refine ⟨_, rfl, _, rfl, _, rfl, r, _, rfl, .inl (SqL.of hr'), p, c, xs.length, rfl, hP, h0, h1000, fun n H' hn hP' o => ?_⟩
    exact ⟨r, xs, _, xs[n], rfl, rfl, SqL.of (o.at_ ap hr'), at_of (j := n) rfl (List.getElem?_eq_getElem hn), k _ H' (List.getElem_mem ..) hP' o⟩
/-! #### _law_value -/
def spValue : Sp := fun vs H Q _ => ∃ (p c : Addr) (cnt : Nat), vs = [.ref p, .int (cnt : Int)] ∧ Pool H p c ∧ cnt ≤ 100 ∧ ∀ (v : ON) (H' : Hp), (∀ n, v = some n → n < cnt) → Pool H' p c → Off p c H H' → Q (optV v) H'
theorem scValue : FnScope ["_law_pool", "_law_count", "_law_value_here"] ["_law_pool", "_law_count"] (defScope sValue) := ⟨rfl, rfl, rfl, by decide +kernel, rfl, by decide +kernel, by decide +kernel⟩
theorem ok_value {f1 : Addr} {fd1 : FuncData} (F : FnP K "_law_value" "_law_value" sValue f fd) (B : Blt mg) (C : Cal P w K mg base "_law_draw" 1 ["_law_pool", "_law_limit"] spDraw f1 fd1) : FnOk P w K mg base CX0 2 f fd ["_law_pool", "_law_count"] spValue := by
  refine F.ok scValue (fun vs H Q E h => ?_) (fun cdv A outer s H vs Q E hr h => ?_)
  · obtain ⟨p, c, cnt, rfl, _⟩ := h
    rfl
  · obtain ⟨p, c, cnt, rfl, hP, h100, k⟩ := h
    have nd := scValue.nd
    refine ⟨_, PSs.nox (pss_cons (ps_set (i := 2) nd rfl (Or.inl rfl) (pe_cal C hr (pa_cons (pv 0) (pa_cons (pe_op op_add (pe_op op_mul pe_int (pv 1)) pe_int) pa_nil))))
      (pss_cons (ps_if (pt_cmpR op_ge (pv 2) (pe_op op_mul pe_int (pv 1)) (nomark _)) (pss_one (ps_ret pe_non)) pss_nil)
      (pss_one (ps_ret (pe_op op_mod (pe_callTy call_int1 (by rfl) B.int (by decide +kernel) (pa_cons (pv 2) pa_nil)) (pv 1)))))), ?_⟩
    refine ⟨_, rfl, _, rfl, _, _, rfl, rfl, .inl ⟨by decide, by decide⟩, _, _, rfl, rfl, ?_⟩
    have e1 : (5 * (cnt : Int) + 1) = ((5 * cnt + 1 : Nat) : Int) := by omega
    refine ⟨p, c, 5 * cnt + 1, congrArg (fun z => [V.ref p, V.int z]) e1, hP, by omega, by omega, fun n H' hn hP' o => ?_⟩
    refine ⟨_, rfl, _, rfl, _, _, rfl, rfl, .inl ⟨by decide, by decide⟩, _, _, rfl, rfl, _, rfl, ?_⟩
    refine ite2 (fun h => ?_) (fun h => ?_)
    · exact k none H' (fun n z => by cases z) hP' o
    · have h2 : ¬ (4 * (cnt : Int) ≤ (n : Int)) := fun z => h (decide_eq_true z)
      have h0 : 0 < cnt := by omega
      obtain ⟨m, hm, em⟩ := mod_nat (x := (n : Int)) h0
      exact ⟨_, rfl, .inl ⟨_, rfl, _, rfl, _, _, rfl, rfl, (by show (0 : Int) < (cnt : Int); omega), qi em (k (some m) H' (fun n z => by cases z; exact hm) hP' o)⟩⟩
/-! #### _law_moved -/
def spMoved : Sp := fun vs H Q _ => ∃ (v : ON) (a : Addr) (sl : List Nat), vs = [optV v, .ref a] ∧ H a = some (.lst (sl.map fun n : Nat => V.int (n : Int))) ∧ sl.Nodup ∧ (∀ n, v = some n → n ∈ sl) ∧ Q (optV (posN sl v)) H
theorem scMoved : FnScope ["_law_value_here", "_law_slots"] ["_law_value_here", "_law_slots"] (defScope sMoved) := ⟨rfl, rfl, rfl, by decide +kernel, rfl, by decide +kernel, by decide +kernel⟩
theorem flat_ints (sl : List Nat) : (sl.map fun n : Nat => V.int (n : Int)).all flatV = true := by
  rw [List.all_eq_true]
  intro v hv
  obtain ⟨z, _, rfl⟩ := List.mem_map.mp hv
  rfl
theorem eqV_int (a b : Int) : eqV (.int a) (.int b) = decide (a = b) := by rfl
theorem ok_moved (F : FnP K "_law_moved" "_law_moved" sMoved f fd) : FnOk P w K mg base CX0 1 f fd ["_law_value_here", "_law_slots"] spMoved := by
  refine F.ok scMoved (fun vs H Q E h => ?_) (fun cdv A outer s H vs Q E hr h => ?_)
  · obtain ⟨v, a, sl, rfl, _⟩ := h
    rfl
  · obtain ⟨v, a, sl, rfl, ha, hnd, hm, k⟩ := h
    refine ⟨_, PSs.nox (pss_cons (ps_if (pt_cmp (pc_isN (pv 0))) (pss_one (ps_ret pe_non)) pss_nil)
      (pss_one (ps_ret (pe_bm PySem.F.plainAttrs_list PySem.F.slot_list_index PySem.F.type_list_index mt_index (pv 1) (pa_cons (pv 0) pa_nil))))), ?_⟩
    cases v with
    | none => exact ⟨_, rfl, _, rfl, iteY rfl k⟩
    | some n =>
      refine ⟨_, rfl, _, rfl, iteN (fun z => by cases z) ?_⟩
      have hg := idx_get (hm n rfl)
      refine ⟨_, rfl, .inl ⟨rfl, _, SqL.of ha⟩, _, rfl, a, _, .int (n : Int), sl.idxOf n, .int (n : Int), rfl, rfl, SqL.of ha, rfl, flat_ints sl, by rw [List.getElem?_map, hg]; rfl, by rw [eqV_int]; simp, fun m z' hlt hz => ?_, k⟩
      obtain ⟨y, hy, rfl⟩ := map_get hz
      rw [eqV_int]
      refine decide_eq_false fun e => ?_
      have e2 : y = n := Int.ofNat.inj e
      rw [e2] at hy
      have := nd_at hnd hy hg
      omega
end
end K5
end partK5D
section partK5E
set_option Elab.async false
set_option linter.all false
set_option maxRecDepth 100000
set_option maxHeartbeats 4000000
set_option pp.maxSteps 1500
/-! The law's words, objects, names. -/
namespace K5
open PySem PySem.Spec PyProof.Rows L2
section
variable {P : Program} {w : World} {K : PySem.W.Frag} {mg : Str → Option Value} {base : Heap} {f : Addr} {fd : FuncData}
theorem empty_eq : (("" : Str)) = ⟨#[]⟩ := by decide +kernel
theorem str_cat (a b : Array Nat) : (⟨a⟩ : Str) ++ ⟨b⟩ = ⟨a ++ b⟩ := rfl
theorem join_signs : ∀ zs : List Nat, Str.join ⟨#[]⟩ (zs.map fun z => (⟨#[z]⟩ : Str)) = ⟨zs.toArray⟩
  | [] => rfl
  | [z] => rfl
  | z :: y :: zs => by
    have ih := join_signs (y :: zs)
    show (⟨#[z]⟩ : Str) ++ ⟨#[]⟩ ++ Str.join ⟨#[]⟩ ((y :: zs).map fun z => (⟨#[z]⟩ : Str)) = _
    rw [ih, str_cat, str_cat]
    simp
theorem sub_len {α : Type} [DecidableEq α] : ∀ {l m : List α}, l.Nodup → (∀ x ∈ l, x ∈ m) → l.length ≤ m.length
  | [], _, _, _ => Nat.zero_le _
  | x :: l, m, hn, h => by
    rw [List.nodup_cons] at hn
    have hx := h x (List.mem_cons_self ..)
    have ih := sub_len (l := l) (m := m.erase x) hn.2 fun y hy => (List.mem_erase_of_ne (fun e => hn.1 (by rw [← e]; exact hy))).mpr (h y (List.mem_cons_of_mem _ hy))
    rw [List.length_erase_of_mem hx] at ih
    have : 0 < m.length := List.length_pos_of_mem hx
    simp only [List.length_cons]
    omega
/-- eight times the sign c -/
def eight (c : Nat) : Str := ⟨#[c, c, c, c, c, c, c, c]⟩
theorem eight_mul (c : Nat) : Txt.mul ⟨#[c]⟩ 8 = eight c := by
  unfold Txt.mul
  rw [if_neg (by decide), if_neg (by simp [Str.length])]
  rfl
theorem eight_ok (c : Nat) : MulOk ⟨#[c]⟩ 8 := ⟨by decide, fun _ _ => by show ¬ (((1 : Nat) : Int) > (2 ^ 63 - 1) / 8); decide, fun _ _ => by first | rfl | decide⟩
theorem eight_word {c : Nat} (h : 97 ≤ c ∧ c < 123) : Word (eight c) := by
  refine ⟨by show 1 ≤ 8; decide, by show 8 ≤ 8; decide, fun x hx => ?_⟩
  have e : x = c := by simpa [eight] using hx
  rw [e]
  exact h
theorem eight_inj {a b : Nat} (h : eight a = eight b) : a = b := by
  have := congrArg (fun z : Str => z.cps.toList.head?) h
  exact Option.some.inj this
theorem letters_get {n : Nat} (h : n < 26) : (("abcdefghijklmnopqrstuvwxyz" : Str)).cps.toList[n]? = some (97 + n) := by
  rw [letters_eq, List.getElem?_range' h]
  congr 1
  omega
theorem letters_of {i c : Nat} (h : (("abcdefghijklmnopqrstuvwxyz" : Str)).cps[i]? = some c) : i < 26 ∧ c = 97 + i := by
  rw [← Array.getElem?_toList] at h
  have hl : i < 26 := by
    have := (List.getElem?_eq_some_iff.mp h).1
    rw [letters_eq, List.length_range'] at this
    exact this
  rw [letters_get hl] at h
  exact ⟨hl, (Option.some.inj h).symm⟩
/-! #### _law_word -/
def spWord : Sp := fun vs H Q _ => ∃ (p c t : Addr) (ts : List Str), vs = [.ref p, .ref t] ∧ Pool H p c ∧ Apart p c t ∧ H t = some (.lst (ts.map .str)) ∧ ts.length ≤ 20 ∧ ∀ (z : Str) (H' : Hp), Word z → z ∉ ts → Pool H' p c → Off p c H H' → Q (.str z) H'
abbrev NWord : List Str := ["_law_pool", "_law_taken", "_law_letters", "_law_size", "_law_word_here", "_law_letter", "_law_k"]
theorem scWord : FnScope NWord ["_law_pool", "_law_taken"] (defScope sWord) := ⟨rfl, rfl, rfl, by decide +kernel, rfl, by decide +kernel, by decide +kernel⟩
theorem ok_word {f1 : Addr} {fd1 : FuncData} (F : FnP K "_law_word" "_law_word" sWord f fd) (B : Blt mg) (C : Cal P w K mg base "_law_draw" 1 ["_law_pool", "_law_limit"] spDraw f1 fd1) : FnOk P w K mg base CX0 2 f fd ["_law_pool", "_law_taken"] spWord := by
  refine F.ok scWord (fun vs H Q E h => ?_) (fun cdv A outer s H vs Q E hr h => ?_)
  · obtain ⟨p, c, t, ts, rfl, _⟩ := h
    rfl
  · obtain ⟨p, c, t, ts, rfl, hP, ap, ht, h20, k⟩ := h
    have nd := scWord.nd
    refine ⟨_, PSs.nox (pss_cons (ps_set (i := 2) nd rfl (Or.inr rfl) pe_str)
      (pss_cons (ps_set (i := 3) nd rfl (Or.inl rfl) (pe_op op_add pe_int (pe_cal C hr (pa_cons (pv 0) (pa_cons pe_int pa_nil)))))
      (pss_cons (ps_set (i := 4) nd rfl (Or.inl rfl) (pe_join pe_str (pe_lc (own := [("_law_k", 6)]) (g := gName 6) (tt := tYes) rfl nd (pi_range1 (by rfl) B.range (pa_cons (pv 3) pa_nil)) (blkOk_by (N := NWord) (sc := defScope sWord) (by decide +kernel))
        (fun _ _ _ _ _ => pg_name (i := 6) nd rfl (Or.inl rfl)) (fun _ _ _ _ _ => pts_nil) (fun _ _ _ _ _ => pe_ix ix_str (pv 2) (pe_cal C hr (pa_cons (pv 0) (pa_cons pe_int pa_nil))) (fun _ _ => rfl)))))
      (pss_cons (ps_if (pt_cmpR op_notIn_seq (pv 4) (pv 1) rfl) (pss_one (ps_ret (pv 4))) pss_nil)
      (pss_cons (ps_for PassesOwn.never rfl (pi_str (pv 2)) (pg_name (i := 5) nd rfl (Or.inl rfl))
        (pss_one (ps_if (pt_cmpR op_notIn_seq (pe_op op_strmul (pv 5) pe_int) (pv 1) rfl) (pss_one (ps_ret (pe_op op_strmul (pv 5) pe_int))) pss_nil)))
      (pss_one (ps_ret (pv 4)))))))), ?_⟩
    refine ⟨_, rfl, p, c, 8, rfl, hP, by decide, by decide, fun n1 H1 hn1 hP1 o1 => ?_⟩
    refine ⟨_, _, rfl, rfl, ⟨_, rfl⟩, ?_⟩
    refine ⟨_, rfl, _, rfl, by omega, by omega, fun D hD => lc_range (lo := 0) (n := ((1 : Int) + (n1 : Int)).toNat) (fun i H' => Pool H' p c ∧ Off p c H H' ∧ ∃ zs : List Nat, zs.length = i ∧ (∀ z ∈ zs, 97 ≤ z ∧ z < 123) ∧ H' D = some (.lst ((zs.map fun z : Nat => (⟨#[z]⟩ : Str)).map V.str))) ?_ ?_ ?_⟩
    · exact ⟨hP1.upd (hP1.apart hD), off_upd (o1.free hP hP1 hD) o1, [], rfl, fun z hz => (by cases hz), upd_same⟩
    · rintro i H' hi ⟨hP', o', zs, hl, hz, hL⟩
      refine ⟨rfl, ?_⟩
      refine ⟨_, rfl, _, rfl, p, c, 26, rfl, hP', by decide, by decide, fun n H2 hn hP2 o2 => ?_⟩
      have apD : Apart p c D := ⟨(hP1.free hD).1, (hP1.free hD).2⟩
      refine ⟨_, _, 97 + n, rfl, rfl, by decide, atI_nat (letters_get hn), ?_⟩
      refine ⟨_, o2.at_ apD hL, small1000 (by rw [List.length_map, List.length_map]; omega), ?_⟩
      refine ⟨hP2.upd apD, off_upd (o1.free hP hP1 hD) (o'.trans o2), zs ++ [97 + n], by rw [List.length_append, hl]; rfl, fun z hz' => ?_, ?_⟩
      · rcases List.mem_append.mp hz' with q | q
        · exact hz z q
        · rw [List.mem_singleton.mp q]
          omega
      · rw [upd_same, List.map_append, List.map_append]
        rfl
    · rintro H2 ⟨hP2, o2, zs, hl, hz, hL⟩
      have hsum : ((zs.map fun z : Nat => (⟨#[z]⟩ : Str)).map (·.length)).sum = zs.length := by
        rw [List.map_map]
        clear hL hl hz
        induction zs with
        | nil => rfl
        | cons a r ih =>
          rw [List.map_cons, List.sum_cons, ih]
          show 1 + r.length = r.length + 1
          omega
      refine ⟨_, D, zs.map fun z : Nat => (⟨#[z]⟩ : Str), rfl, rfl, .inl (SqL.of hL), ?_, ?_⟩
      · rw [hsum, empty_eq]
        show zs.length + _ * 0 ≤ 16777216
        omega
      · have ej : Txt.join (("" : Str)) (zs.map fun z : Nat => (⟨#[z]⟩ : Str)) = ⟨zs.toArray⟩ := by rw [TL.join_eq, empty_eq, join_signs]
        have hw : Word ⟨zs.toArray⟩ := by
          refine ⟨?_, ?_, fun x hx => hz x (by simpa using hx)⟩
          · show 1 ≤ zs.toArray.size
            rw [List.size_toArray]
            omega
          · show zs.toArray.size ≤ 8
            rw [List.size_toArray]
            omega
        have ht2 : H2 t = some (.lst (ts.map .str)) := o2.at_ ap ht
        refine ⟨_, rfl, _, rfl, t, _, rfl, .inl (SqL.of ht2), rfl, flat_strs ts, _, rfl, ?_⟩
        have hin : inV (V.str (Txt.join (("" : Str)) (zs.map fun z : Nat => (⟨#[z]⟩ : Str)))) (ts.map .str) = decide ((⟨zs.toArray⟩ : Str) ∈ ts) := by rw [ej, inV_strs]
        show if (!inV (V.str (Txt.join (("" : Str)) (zs.map fun z : Nat => (⟨#[z]⟩ : Str)))) (ts.map .str)) = true then _ else _
        rw [hin]
        by_cases hm : (⟨zs.toArray⟩ : Str) ∈ ts
        · refine iteNS hm ?_
          refine ⟨_, rfl, _, rfl, for_str (fun i σ H' => H' = H2 ∧ (∃ v4 v5 v6, σ = [some (.ref p), some (.ref t), some (.str "abcdefghijklmnopqrstuvwxyz"), v4, some (.str v5), v6, none]) ∧ ∀ j, j < i → eight (97 + j) ∈ ts) ⟨rfl, ⟨_, _, _, rfl⟩, fun j hj => absurd hj (Nat.not_lt_zero j)⟩ ?_ ?_⟩
          · rintro i cc σ H' hc ⟨rfl, ⟨v4, v5, v6, rfl⟩, hall⟩
            have hcc := letters_of hc
            obtain ⟨hi, rfl⟩ := hcc
            refine ⟨_, rfl, _, 8, rfl, rfl, eight_ok _, _, rfl, t, _, rfl, .inl (SqL.of ht2), rfl, flat_strs ts, _, rfl, ?_⟩
            show if (!inV (V.str (Txt.mul ⟨#[97 + i]⟩ 8)) (ts.map .str)) = true then _ else _
            rw [eight_mul, inV_strs]
            by_cases hm2 : eight (97 + i) ∈ ts
            · refine iteNS hm2 ⟨rfl, ⟨_, _, _, rfl⟩, fun j hj => ?_⟩
              by_cases q : j = i
              · rw [q]; exact hm2
              · exact hall j (by omega)
            · refine iteNY hm2 ?_
              refine ⟨_, rfl, _, 8, rfl, rfl, eight_ok _, ?_⟩
              show Q (V.str (Txt.mul ⟨#[97 + i]⟩ 8)) _
              rw [eight_mul]
              exact k _ _ (eight_word (by omega)) hm2 hP2 o2
          · rintro σ H' ⟨rfl, _, hall⟩
            exfalso
            have h26 : (("abcdefghijklmnopqrstuvwxyz" : Str)).cps.size = 26 := by decide +kernel
            have nd26 : ((List.range 26).map fun j => eight (97 + j)).Nodup := by
              unfold List.Nodup
              rw [List.pairwise_map]
              exact List.nodup_range.imp fun hab e => hab (by have := eight_inj e; omega)
            have := sub_len (m := ts) nd26 fun x hx => by
              obtain ⟨j, hj, rfl⟩ := List.mem_map.mp hx
              exact hall j (by rw [h26]; exact List.mem_range.mp hj)
            rw [List.length_map, List.length_range] at this
            omega
        · refine iteNY hm ?_
          refine ⟨_, rfl, ?_⟩
          show Q (V.str (Txt.join (("" : Str)) (zs.map fun z : Nat => (⟨#[z]⟩ : Str)))) _
          rw [ej]
          exact k _ _ hw hm hP2 o2
/-! #### _law_words -/
def spWords : Sp := fun vs H Q _ => ∃ (p c : Addr) (lo hi : Nat), vs = [.ref p, .int (lo : Int), .int (hi : Int)] ∧ Pool H p c ∧ lo ≤ hi ∧ hi ≤ 6 ∧ ∀ (q : Addr) (ws : List Str) (H' : Hp), H q = none → H' q = some (.lst (ws.map .str)) → ws.Nodup → (∀ z ∈ ws, Word z) → lo ≤ ws.length → ws.length ≤ hi →
  Pool H' p c → Off p c H H' → Q (.ref q) H'
theorem scWords : FnScope ["_law_pool", "_law_least", "_law_most", "_law_words_here", "_law_k"] ["_law_pool", "_law_least", "_law_most"] (defScope sWords) := ⟨rfl, rfl, rfl, by decide +kernel, rfl, by decide +kernel, by decide +kernel⟩
theorem ok_words {f1 f2 : Addr} {fd1 fd2 : FuncData} (F : FnP K "_law_words" "_law_words" sWords f fd) (B : Blt mg) (C : Cal P w K mg base "_law_draw" 1 ["_law_pool", "_law_limit"] spDraw f1 fd1) (C2 : Cal P w K mg base "_law_word" 2 ["_law_pool", "_law_taken"] spWord f2 fd2) :
    FnOk P w K mg base CX0 3 f fd ["_law_pool", "_law_least", "_law_most"] spWords := by
  refine F.ok scWords (fun vs H Q E h => ?_) (fun cdv A outer s H vs Q E hr h => ?_)
  · obtain ⟨p, c, lo, hi, rfl, _⟩ := h
    rfl
  · obtain ⟨p, c, lo, hi, rfl, hP, h1, h6, k⟩ := h
    have nd := scWords.nd
    have hr1 : Room 1 _ := hr.mono (by decide)
    refine ⟨_, PSs.nox (pss_cons (ps_set (i := 3) nd rfl (Or.inl rfl) (pe_lst pa_nil))
      (pss_cons (ps_for PassesOwn.never rfl (pi_range1 (by rfl) B.range (pa_cons (pe_op op_add (pv 1) (pe_cal C hr1 (pa_cons (pv 0) (pa_cons (pe_op op_add (pe_op op_sub (pv 2) (pv 1)) pe_int) pa_nil)))) pa_nil)) (pg_name (i := 4) nd rfl (Or.inl rfl))
        (pss_one (ps_expr (pe_bm PySem.F.plainAttrs_list PySem.F.slot_list_append PySem.F.type_list_append mt_append (pv 3) (pa_cons (pe_cal C2 hr (pa_cons (pv 0) (pa_cons (pv 3) pa_nil))) pa_nil)))))
      (pss_one (ps_ret (pv 3))))), ?_⟩
    refine ⟨Nat.zero_le _, fun q hq => ?_⟩
    have apq : Apart p c q := hP.apart hq
    have e1 : ((hi : Int) - (lo : Int) + 1) = ((hi - lo + 1 : Nat) : Int) := by omega
    refine ⟨_, rfl, _, rfl, _, rfl, _, rfl, _, _, rfl, rfl, _, _, rfl, rfl, p, c, hi - lo + 1, congrArg (fun z => [V.ref p, V.int z]) e1, hP.upd apq, by omega, by omega, fun n H1 hn hP1 o1 => ?_⟩
    have o1' : Off p c H H1 := (off_upd hq Off.refl).trans o1
    refine ⟨_, _, rfl, rfl, _, rfl, by omega, by omega, for_range (lo := 0) (n := ((lo : Int) + (n : Int)).toNat) (fun i σ H' => ∃ ws v, σ = [some (.ref p), some (.int (lo : Int)), some (.int (hi : Int)), some (.ref q), v] ∧ Pool H' p c ∧ Off p c H H' ∧ H' q = some (.lst (ws.map V.str)) ∧ ws.Nodup ∧ (∀ z ∈ ws, Word z) ∧ ws.length = i)
      ⟨[], none, rfl, hP1, o1', o1.at_ apq upd_same, List.nodup_nil, fun z hz => (by cases hz), rfl⟩ ?_ ?_⟩
    · rintro i σ H' hi' ⟨ws, v, rfl, hP', o', hL, hnd, hw, hl⟩
      refine ⟨_, rfl, .inl ⟨rfl, _, SqL.of hL⟩, _, rfl, _, rfl, p, c, q, ws, rfl, hP', apq, hL, by omega, fun z H2 hz hzn hP2 o2 => ?_⟩
      refine ⟨q, _, _, rfl, rfl, o2.at_ apq hL, small1000 (by rw [List.length_map]; omega), ?_⟩
      refine ⟨ws ++ [z], _, rfl, hP2.upd apq, off_upd hq (o'.trans o2), by rw [upd_same, List.map_append]; rfl, nd_app hnd hzn, fun y hy => ?_, by rw [List.length_append, hl]; rfl⟩
      rcases List.mem_append.mp hy with e | e
      · exact hw y e
      · rw [List.mem_singleton.mp e]
        exact hz
    · rintro σ H' ⟨ws, v, rfl, hP', o', hL, hnd, hw, hl⟩
      exact ⟨_, rfl, k q ws H' hq hL hnd hw (by omega) (by omega) hP' o'⟩
end
end K5
end partK5E
section partK5F
set_option Elab.async false
set_option linter.all false
set_option maxRecDepth 100000
set_option maxHeartbeats 4000000
set_option pp.maxSteps 1500
/-! The law's objects and names. -/
namespace K5
open PySem PySem.Spec PyProof.Rows L2
section
variable {P : Program} {w : World} {K : PySem.W.Frag} {mg : Str → Option Value} {base : Heap} {f : Addr} {fd : FuncData}
/-- a dict x being filled, the list a of dicts beside it -/
theorem bnd_nil {n : Nat} : Bnd n [] := fun k h => by cases h
/-! #### _law_objects -/
def spLObjs : Sp := fun vs H Q _ => ∃ (p c a : Addr) (fs : List Str) (cnt : Nat), vs = [.ref p, .ref a, .int (cnt : Int)] ∧ Pool H p c ∧ Apart p c a ∧ H a = some (.lst (fs.map .str)) ∧ fs.Nodup ∧ fs.length ≤ 2 ∧ cnt ≤ 100 ∧ ∀ (q : Addr) (obs : List (List ON)) (as : List Addr) (H' : Hp), H q = none → ObjsAt H' q fs obs as → obs.length = cnt →
  ObsOk fs cnt obs → (∀ x ∈ as, H x = none) → Pool H' p c → Off p c H H' → Q (.ref q) H'
theorem scLObjs : FnScope ["_law_pool", "_law_fields", "_law_count", "_law_objects_here", "_law_k", "_law_item", "_law_field"] ["_law_pool", "_law_fields", "_law_count"] (defScope sLObjects) := ⟨rfl, rfl, rfl, by decide +kernel, rfl, by decide +kernel, by decide +kernel⟩
theorem ok_lobjs {f1 : Addr} {fd1 : FuncData} (F : FnP K "_law_objects" "_law_objects" sLObjects f fd) (B : Blt mg) (C : Cal P w K mg base "_law_value" 2 ["_law_pool", "_law_count"] spValue f1 fd1) : FnOk P w K mg base CX0 3 f fd ["_law_pool", "_law_fields", "_law_count"] spLObjs := by
  refine F.ok scLObjs (fun vs H Q E h => ?_) (fun cdv A outer s H vs Q E hr h => ?_)
  · obtain ⟨p, c, a, fs, cnt, rfl, _⟩ := h
    rfl
  · obtain ⟨p, c, a, fs, cnt, rfl, hP, ap, ha, hfn, hf2, h100, k⟩ := h
    have nd := scLObjs.nd
    have hu := hu_of hr
    refine ⟨_, PSs.nox (pss_cons (ps_set (i := 3) nd rfl (Or.inl rfl) (pe_lst pa_nil))
      (pss_cons (ps_for PassesOwn.never rfl (pi_range1 (by rfl) B.range (pa_cons (pv 2) pa_nil)) (pg_name (i := 4) nd rfl (Or.inl rfl))
        (pss_cons (ps_set (i := 5) nd rfl (Or.inl rfl) pe_dnewK)
        (pss_cons (ps_for PassesOwn.never rfl (pi_list (pv 1)) (pg_name (i := 6) nd rfl (Or.inl rfl))
          (pss_one (ps_dput hu (pv 5) (pv 6) (pe_cal C hr (pa_cons (pv 0) (pa_cons (pv 2) pa_nil))) rfl)))
        (pss_one (ps_expr (pe_bm PySem.F.plainAttrs_list PySem.F.slot_list_append PySem.F.type_list_append mt_append (pv 3) (pa_cons (pv 5) pa_nil)))))))
      (pss_one (ps_ret (pv 3))))), ?_⟩
    refine ⟨Nat.zero_le _, fun q hq => ?_⟩
    have apq : Apart p c q := hP.apart hq
    have hP1 : Pool (upd H q (.lst [])) p c := hP.upd apq
    refine ⟨_, rfl, _, rfl, by omega, by omega, for_range (lo := 0) (n := (cnt : Int).toNat) (fun i σ H' => ∃ v4 v5 v6 obs as, σ = [some (.ref p), some (.ref a), some (.int (cnt : Int)), some (.ref q), v4, v5, v6] ∧ Pool H' p c ∧ Off p c H H' ∧ ObjsAt H' q fs obs as ∧ obs.length = i ∧ ObsOk fs cnt obs ∧ (∀ x ∈ as, H x = none))
      ⟨none, none, none, [], [], rfl, hP1, off_upd hq Off.refl, ObjsAt.nil upd_same, rfl, fun o ho => (by cases ho), fun x hx => (by cases hx)⟩ ?_ ?_⟩
    · rintro i σ H1 hi ⟨v4, v5, v6, obs, as, rfl, hP1, o1, O1, hl, ok, hfr⟩
      intro x hx
      have apx : Apart p c x := hP1.apart hx
      obtain ⟨xq, xas⟩ := O1.out hx
      have hx0 : H x = Option.none := o1.free hP hP1 hx
      have xa : x ≠ a := (ne_of_none ha hx0).symm
      refine ⟨_, rfl, a, rfl, ⟨_, SqL.of (Eq.trans (upd_ne xa.symm) (o1.at_ ap ha))⟩, for_list (K := K) (a := a) (xs := fs.map .str) (fun j σ H' => ∃ v6 ob, σ = [some (.ref p), some (.ref a), some (.int (cnt : Int)), some (.ref q), some (.int (0 + (i : Int))), some (.ref x), v6] ∧ Pool H' p c ∧ Off p c H H' ∧ ObjsAt H' q fs obs as ∧
          H' x = some (.dK (ent (fs.take j) ob)) ∧ ob.length = j ∧ Bnd cnt ob) ⟨v6, [], rfl, hP1.upd apx, off_upd hx0 o1, O1.upd xq xas, upd_same, rfl, bnd_nil⟩
          (fun j σ H' _ ⟨_, _, _, _, o', _⟩ => SqL.of (o'.at_ ap ha)) ?_ ?_⟩
      · rintro j y σ H2 hy ⟨v6, ob, rfl, hP2, o2, O2, hx2, hl2, hb2⟩
        obtain ⟨g, hg, rfl⟩ := map_get hy
        have hgn := nd_not_take hfn hg
        have hj : j < fs.length := (List.getElem?_eq_some_iff.mp hg).1
        have hlt : ob.length = (fs.take j).length := by rw [List.length_take]; omega
        refine ⟨_, rfl, _, rfl, p, c, cnt, rfl, hP2, h100, fun v H3 hv hP3 o3 => ?_⟩
        have hx3 := o3.at_ apx hx2
        have O3 := O2.off o3 hP2 apq
        refine ⟨_, rfl, _, rfl, x, _, rfl, DPut.k (k := Sum.inr g) hx3 (small1000 (by rw [ent_len hlt, List.length_take]; omega)), ?_⟩
        refine ⟨_, ob ++ [v], rfl, hP3.upd apx, off_upd hx0 (o2.trans o3), O3.upd xq xas, ?_, by rw [List.length_append, hl2]; rfl, hb2.snoc hv⟩
        rw [upd_same, ent_put_new hlt hgn, take_succ' hg]
      · rintro σ H2 ⟨v6, ob, rfl, hP2, o2, O2, hx2, hl2, hb2⟩
        rw [List.length_map] at hl2 hx2
        rw [List.take_length] at hx2
        refine ⟨_, rfl, .inl ⟨rfl, _, SqL.of O2.lst⟩, _, rfl, q, _, _, rfl, rfl, O2.lst, small1000 (by rw [List.length_map, O2.len]; omega), ?_⟩
        refine ⟨_, _, _, obs ++ [ob], as ++ [x], rfl, hP2.upd apq, off_upd hq o2, O2.snoc xq xas hx2, by rw [List.length_append, hl]; rfl, ok.snoc hl2 hb2, fun y hy => ?_⟩
        rcases List.mem_append.mp hy with e | e
        · exact hfr y e
        · rw [List.mem_singleton.mp e]
          exact hx0
    · rintro σ H1 ⟨v4, v5, v6, obs, as, rfl, hP1, o1, O1, hl, ok, hfr⟩
      exact ⟨_, rfl, k q obs as H1 hq O1 (by omega) ok hfr hP1 o1⟩
/-! #### _law_names -/
def spLNames : Sp := fun vs H Q _ => ∃ (p c a : Addr) (ns : List Str) (cnt : Nat), vs = [.ref p, .ref a, .int (cnt : Int)] ∧ Pool H p c ∧ Apart p c a ∧ H a = some (.lst (ns.map .str)) ∧ ns.Nodup ∧ ns.length ≤ 6 ∧ cnt ≤ 100 ∧ ∀ (d : Addr) (us : List ON) (H' : Hp), H d = none → H' d = some (.dK (ent ns us)) → us.length = ns.length → Bnd cnt us →
  Pool H' p c → Off p c H H' → Q (.ref d) H'
theorem scLNames : FnScope ["_law_pool", "_law_names_here", "_law_count", "_law_holders", "_law_name", "_law_number"] ["_law_pool", "_law_names_here", "_law_count"] (defScope sLNames) := ⟨rfl, rfl, rfl, by decide +kernel, rfl, by decide +kernel, by decide +kernel⟩
theorem ok_lnames {f1 : Addr} {fd1 : FuncData} (F : FnP K "_law_names" "_law_names" sLNames f fd) (B : Blt mg) (C : Cal P w K mg base "_law_draw" 1 ["_law_pool", "_law_limit"] spDraw f1 fd1) : FnOk P w K mg base CX0 2 f fd ["_law_pool", "_law_names_here", "_law_count"] spLNames := by
  refine F.ok scLNames (fun vs H Q E h => ?_) (fun cdv A outer s H vs Q E hr h => ?_)
  · obtain ⟨p, c, a, ns, cnt, rfl, _⟩ := h
    rfl
  · obtain ⟨p, c, a, ns, cnt, rfl, hP, ap, ha, hnn, hn6, h100, k⟩ := h
    have nd := scLNames.nd
    have hu := hu_of hr
    refine ⟨_, PSs.nox (pss_cons (ps_set (i := 3) nd rfl (Or.inl rfl) pe_dnewK)
      (pss_cons (ps_for PassesOwn.never rfl (pi_list (pv 1)) (pg_name (i := 4) nd rfl (Or.inl rfl))
        (pss_cons (ps_set (i := 5) nd rfl (Or.inl rfl) (pe_cal C hr (pa_cons (pv 0) (pa_cons (pe_op op_add (pe_op op_mul pe_int (pv 2)) pe_int) pa_nil))))
        (pss_cons (ps_dput hu (pv 3) (pv 4) pe_non rfl)
        (pss_one (ps_if (pt_cmpR op_lt (pv 5) (pe_op op_mul pe_int (pv 2)) (nomark _)) (pss_one (ps_dput hu (pv 3) (pv 4) (pe_op op_mod (pe_callTy call_int1 (by rfl) B.int (by decide +kernel) (pa_cons (pv 5) pa_nil)) (pv 2)) rfl)) pss_nil)))))
      (pss_one (ps_ret (pv 3))))), ?_⟩
    intro d hd
    have apd : Apart p c d := hP.apart hd
    have da : a ≠ d := ne_of_none ha hd
    refine ⟨_, rfl, a, rfl, ⟨_, SqL.of (Eq.trans (upd_ne da) ha)⟩, for_list (K := K) (a := a) (xs := ns.map .str) (fun i σ H' => ∃ v4 v5 us, σ = [some (.ref p), some (.ref a), some (.int (cnt : Int)), some (.ref d), v4, v5] ∧ Pool H' p c ∧ Off p c H H' ∧ H' d = some (.dK (ent (ns.take i) us)) ∧ us.length = i ∧ Bnd cnt us)
      ⟨none, none, [], rfl, hP.upd apd, off_upd hd Off.refl, upd_same, rfl, bnd_nil⟩ (fun i σ H' _ ⟨_, _, _, _, _, o', _⟩ => SqL.of (o'.at_ ap ha)) ?_ ?_⟩
    · rintro i y σ H1 hy ⟨v4, v5, us, rfl, hP1, o1, hd1, hl, hb⟩
      obtain ⟨g, hg, rfl⟩ := map_get hy
      have hgn := nd_not_take hnn hg
      have hi : i < ns.length := (List.getElem?_eq_some_iff.mp hg).1
      have hlt : us.length = (ns.take i).length := by rw [List.length_take]; omega
      have e1 : (3 * (cnt : Int) + 1) = ((3 * cnt + 1 : Nat) : Int) := by omega
      refine ⟨_, rfl, _, rfl, _, _, rfl, rfl, .inl ⟨by decide, by decide⟩, _, _, rfl, rfl, p, c, 3 * cnt + 1, congrArg (fun z => [V.ref p, V.int z]) e1, hP1, by omega, by omega, fun n H2 hn hP2 o2 => ?_⟩
      have hd2 := o2.at_ apd hd1
      have e2 : putK (ent (ns.take i) us) (Sum.inr g : Key) .non = ent (ns.take (i + 1)) (us ++ [none]) := by
        rw [take_succ' hg]
        exact ent_put_new (v := none) hlt hgn
      have hlt2 : (us ++ [none]).length = (ns.take (i + 1)).length := by rw [List.length_take, List.length_append, hl]; show i + 1 = _; omega
      have hb2 : Bnd cnt (us ++ [none]) := hb.snoc fun n z => by cases z
      refine ⟨_, rfl, _, rfl, d, _, rfl, DPut.k (k := Sum.inr g) hd2 (small1000 (by rw [ent_len hlt, List.length_take]; omega)), ?_⟩
      rw [e2]
      have hd3 : (upd H2 d (.dK (ent (ns.take (i + 1)) (us ++ [none])))) d = some (.dK (ent (ns.take (i + 1)) (us ++ [none]))) := upd_same
      refine ⟨_, rfl, _, rfl, _, _, rfl, rfl, .inl ⟨by decide, by decide⟩, _, _, rfl, rfl, _, rfl, ?_⟩
      refine ite2 (fun h => ?_) (fun h => ?_)
      · have h2 : (n : Int) < 3 * (cnt : Int) := of_decide_eq_true h
        obtain ⟨m, hm, em⟩ := mod_nat (x := (n : Int)) (show 0 < cnt by omega)
        have hgm : g ∈ ns.take (i + 1) := by rw [take_succ' hg]; simp
        obtain ⟨us2, e3, l3, m3⟩ := ent_put_old (v := some m) hlt2 hgm
        refine ⟨_, rfl, .inl ⟨_, rfl, _, rfl, _, _, rfl, rfl, (by show (0 : Int) < (cnt : Int); omega), _, rfl, _, rfl, d, _, rfl, DPut.k (k := Sum.inr g) hd3 (small1000 (by rw [ent_len hlt2, List.length_take]; omega)), ?_⟩⟩
        refine ⟨_, _, us2, rfl, (hP2.upd apd).upd apd, off_upd hd (off_upd hd (o1.trans o2)), ?_, by rw [l3, List.length_take]; omega, fun z hz => ?_⟩
        · rw [upd_same]
          show some (HO.dK (putK (ent (ns.take (i + 1)) (us ++ [none])) (Sum.inr g) (V.int ((n : Int) % (cnt : Int))))) = _
          rw [em]
          exact congrArg (fun z => some (HO.dK z)) e3
        · rcases m3 _ hz with e | e
          · exact hb2 z e
          · have := Option.some.inj e
            omega
      · exact ⟨_, _, us ++ [none], rfl, hP2.upd apd, off_upd hd (o1.trans o2), hd3, by rw [List.length_append, hl]; rfl, hb2⟩
    · rintro σ H1 ⟨v4, v5, us, rfl, hP1, o1, hd1, hl, hb⟩
      rw [List.length_map] at hl hd1
      rw [List.take_length] at hd1
      exact ⟨_, rfl, k d us H1 hd hd1 hl hb hP1 o1⟩
end
end K5
end partK5F
section partK5G
set_option Elab.async false
set_option linter.all false
set_option maxRecDepth 100000
set_option maxHeartbeats 4000000
set_option pp.maxSteps 1500
/-! The law's pairing walk: pair, alike. -/
namespace K5
open PySem PySem.Spec PyProof.Rows L2
section
variable {P : Program} {w : World} {K : PySem.W.Frag} {mg : Str → Option Value} {base : Heap} {f : Addr} {fd : FuncData}
structure PairAt (H : Hp) (l r q : Addr) (qs : List (Nat × Nat)) (ts : List Addr) : Prop where
  l : H l = some (.dK (leftD qs))
  r : H r = some (.dK (rightD qs))
  q : H q = some (.lst (ts.map .ref))
  len : ts.length = qs.length
  at_ : ∀ (i : Nat) (t : Addr) (p : Nat × Nat), ts[i]? = some t → qs[i]? = some p → H t = some (.tup [.int (p.1 : Int), .int (p.2 : Int)])
/-- all but the three objects is as it was -/
def Off3 (l r q : Addr) (H H' : Hp) : Prop := ∀ b o, b ≠ l → b ≠ r → b ≠ q → H b = some o → H' b = some o
def spPair : Sp := fun vs H Q _ => ∃ (l r q : Addr) (x y : ON) (qs : List (Nat × Nat)) (ts : List Addr), vs = [.ref l, .ref r, .ref q, optV x, optV y] ∧ PairAt H l r q qs ts ∧ l ≠ r ∧ qs.length ≤ 900 ∧ (pairB qs x y = none → Q (.bl false) H) ∧
  ∀ (qs' : List (Nat × Nat)) (ts' : List Addr) (H' : Hp), pairB qs x y = some qs' → PairAt H' l r q qs' ts' → Off3 l r q H H' → Q (.bl true) H'
abbrev NPair : List Str := ["_law_left", "_law_right", "_law_queue", "_law_one", "_law_two"]
theorem scPair : FnScope NPair NPair (defScope sPair) := ⟨rfl, rfl, rfl, by decide +kernel, rfl, by decide +kernel, by decide +kernel⟩
theorem left_len (q : List (Nat × Nat)) : (leftD q).length = q.length := by unfold leftD; rw [List.length_map]
theorem right_len (q : List (Nat × Nat)) : (rightD q).length = q.length := by unfold rightD; rw [List.length_map]
theorem ok_pair (F : FnP K "_law_pair" "_law_pair" sPair f fd) : FnOk P w K mg base CX0 1 f fd NPair spPair := by
  refine F.ok scPair (fun vs H Q E h => ?_) (fun cdv A outer s H vs Q E hr h => ?_)
  · obtain ⟨l, r, q, x, y, qs, ts, rfl, _⟩ := h
    rfl
  · obtain ⟨l, r, q, x, y, qs, ts, rfl, PA, hlr, h900, k0, k1⟩ := h
    have hu := hu_of hr
    refine ⟨_, PSs.nox (pss_cons (ps_if (PW.pt (pw_or (pt_cmp (pc_isN (pv 3))) (pw_or1 (pt_cmp (pc_isN (pv 4)))))) (pss_one (ps_ret (pe_and (pe_cmp (pc_isN (pv 3))) (pe_one (pe_cmp (pc_isN (pv 4))))))) pss_nil)
      (pss_cons (ps_if (pt_cmp (pc_din hu (pv 3) (pv 0))) (pss_one (ps_ret (pe_cmpR op_eq (pe_dget hu (pv 0) (pv 3) (fun _ _ => rfl)) (pv 4) (nomark _)))) pss_nil)
      (pss_cons (ps_if (pt_cmp (pc_din hu (pv 4) (pv 1))) (pss_one (ps_ret pe_bl)) pss_nil)
      (pss_cons (ps_dput hu (pv 0) (pv 3) (pv 4) rfl)
      (pss_cons (ps_dput hu (pv 1) (pv 4) (pv 3) rfl)
      (pss_cons (ps_expr (pe_bm PySem.F.plainAttrs_list PySem.F.slot_list_append PySem.F.type_list_append mt_append (pv 2) (pa_cons (pe_tup (pa_cons (pv 3) (pa_cons (pv 4) pa_nil))) pa_nil)))
      (pss_one (ps_ret pe_bl)))))))), ?_⟩
    cases x with
    | none =>
      refine ⟨_, rfl, _, rfl, iteY rfl ?_⟩
      refine ⟨_, rfl, _, rfl, iteY rfl ?_⟩
      cases y with
      | none => exact ⟨_, rfl, k1 qs ts H rfl PA fun _ _ _ _ _ e => e⟩
      | some b => exact ⟨_, rfl, k0 rfl⟩
    | some a =>
      refine ⟨_, rfl, _, rfl, iteN (fun z => by cases z) ?_⟩
      cases y with
      | none =>
        refine ⟨_, rfl, _, rfl, iteY rfl ?_⟩
        exact ⟨_, rfl, _, rfl, iteN (fun z => by cases z) (k0 rfl)⟩
      | some b =>
        refine ⟨_, rfl, _, rfl, iteN (fun z => by cases z) ?_⟩
        have e1 := left_val qs a
        refine ⟨_, rfl, _, rfl, l, _, rfl, DGet.k (k := Sum.inl (a : Int)) PA.l, _, rfl, ?_⟩
        cases e : qs.lookup a with
        | some b' =>
          rw [e] at e1
          have e1' : valV (leftD qs) (Sum.inl (a : Int) : Key) = some (V.int (b' : Int)) := e1
          rw [e1']
          refine iteT ?_
          refine ⟨_, rfl, _, rfl, l, V.int (b' : Int), rfl, by rw [← e1']; exact DGet.k (k := Sum.inl (a : Int)) PA.l, _, rfl, rfl, ?_⟩
          by_cases hb : b' = b
          · have e2 : pairB qs (some a) (some b) = some qs := by
              unfold pairB
              simp only [e]
              rw [if_pos hb]
            exact qb (decide_eq_true (by rw [hb]; rfl)) (k1 qs ts H e2 PA fun _ _ _ _ _ e => e)
          · have e2 : pairB qs (some a) (some b) = none := by
              unfold pairB
              simp only [e]
              rw [if_neg hb]
            exact qb (decide_eq_false fun z => hb (Int.ofNat.inj (V.int.inj z))) (k0 e2)
        | none =>
          rw [e] at e1
          have e1' : valV (leftD qs) (Sum.inl (a : Int) : Key) = none := e1
          rw [e1']
          refine iteF ?_
          have e3 := right_val qs b
          refine ⟨_, rfl, _, rfl, r, _, rfl, DGet.k (k := Sum.inl (b : Int)) PA.r, _, rfl, ?_⟩
          rw [e3]
          by_cases hb : b ∈ qs.map (·.2)
          · have e2 : pairB qs (some a) (some b) = none := by
              unfold pairB
              simp only [e]
              rw [if_pos hb]
            exact iteY hb (k0 e2)
          · have e2 : pairB qs (some a) (some b) = some (qs ++ [(a, b)]) := by
              unfold pairB
              simp only [e]
              rw [if_neg hb]
            refine iteN hb ?_
            have hrn : valV (rightD qs) (Sum.inl (b : Int) : Key) = none := by
              cases z : valV (rightD qs) (Sum.inl (b : Int) : Key) with
              | none => rfl
              | some v =>
                rw [z] at e3
                have : decide (b ∈ qs.map (·.2)) = true := e3.symm
                exact absurd (of_decide_eq_true this) hb
            have rl : r ≠ l := hlr.symm
            have ql : q ≠ l := ne_of PA.q PA.l (fun z => by cases z)
            have qr : q ≠ r := ne_of PA.q PA.r (fun z => by cases z)
            refine ⟨_, rfl, _, rfl, _, rfl, l, _, rfl, DPut.k (k := Sum.inl (a : Int)) PA.l (small1000 (by rw [left_len]; omega)), ?_⟩
            refine ⟨_, rfl, _, rfl, _, rfl, r, _, rfl, DPut.k (k := Sum.inl (b : Int)) (Eq.trans (upd_ne rl) PA.r) (small1000 (by rw [right_len]; omega)), ?_⟩
            refine ⟨_, rfl, .inl ⟨rfl, _, SqL.of (Eq.trans (upd_ne qr) (Eq.trans (upd_ne ql) PA.q))⟩, _, rfl, _, rfl, (by show 2 ≤ sizeLine; decide), fun t ht => ?_⟩
            rw [putK_new _ e1', putK_new _ hrn] at *
            have tr : t ≠ r := fun z => by rw [z, upd_same] at ht; cases ht
            rw [upd_ne tr] at ht
            have tl : t ≠ l := fun z => by rw [z, upd_same] at ht; cases ht
            rw [upd_ne tl] at ht
            have tq : t ≠ q := (ne_of_none PA.q ht).symm
            refine ⟨q, _, _, rfl, rfl, Eq.trans (upd_ne tq.symm) (Eq.trans (upd_ne qr) (Eq.trans (upd_ne ql) PA.q)), small1000 (by rw [List.length_map, PA.len]; omega), ?_⟩
            refine k1 (qs ++ [(a, b)]) (ts ++ [t]) _ e2 ⟨?_, ?_, ?_, ?_, ?_⟩ fun b' o h1 h2 h3 e => ?_
            · rw [upd_ne ql.symm, upd_ne tl.symm, upd_ne hlr, upd_same, left_app]
              rfl
            · rw [upd_ne qr.symm, upd_ne tr.symm, upd_same, right_app]
              rfl
            · rw [upd_same, List.map_append]
              rfl
            · rw [List.length_append, List.length_append, PA.len]
              rfl
            · intro i t' p' g1 g2
              by_cases hi : i < ts.length
              · rw [List.getElem?_append_left hi] at g1
                rw [List.getElem?_append_left (by rw [← PA.len]; exact hi)] at g2
                have g3 := PA.at_ i t' p' g1 g2
                rw [upd_ne (ne_of g3 PA.q (fun z => by cases z)), upd_ne (ne_of_none g3 ht), upd_ne (ne_of g3 PA.r (fun z => by cases z)), upd_ne (ne_of g3 PA.l (fun z => by cases z))]
                exact g3
              · rw [List.getElem?_append_right (by omega)] at g1
                rw [List.getElem?_append_right (by rw [← PA.len]; omega)] at g2
                rw [← PA.len] at g2
                cases z : i - ts.length with
                | zero =>
                  rw [z] at g1 g2
                  have g1 := Option.some.inj g1
                  have g2 := Option.some.inj g2
                  subst g1 g2
                  rw [upd_ne tq, upd_same]
                  rfl
                | succ n => rw [z] at g1; cases g1
            · rw [upd_ne h3, upd_ne (ne_of_none e ht), upd_ne h2, upd_ne h1]
              exact e
end
end K5
end partK5G
section partK5H
set_option Elab.async false
set_option linter.all false
set_option maxRecDepth 100000
set_option maxHeartbeats 4000000
set_option pp.maxSteps 1500
/-! The law's alike. -/
namespace K5
open PySem PySem.Spec PyProof.Rows L2
section
variable {P : Program} {w : World} {K : PySem.W.Frag} {mg : Str → Option Value} {base : Heap} {f : Addr} {fd : FuncData}
/-- two heaps as data: fields, objects, names -/
abbrev IsoD (fs : List Str) (ob1 ob2 : List (List ON)) (ns : List Str) (us1 : List ON) (ns2 : List Str) (us2 : List ON) : Prop := Iso (valF fs ob1) (valF fs ob2) fs ns (look1 ns us1) (look1 ns2 us2)
def spAlike : Sp := fun vs H Q _ => ∃ (a o1 o2 d1 d2 : Addr) (fs : List Str) (ob1 ob2 : List (List ON)) (as1 as2 : List Addr) (ns ns2 : List Str) (us us2 : List ON), vs = [.ref a, .ref o1, .ref o2, .ref d1, .ref d2] ∧ H a = some (.lst (fs.map .str)) ∧ ObjsAt H o1 fs ob1 as1 ∧ ObjsAt H o2 fs ob2 as2 ∧
  H d1 = some (.dK (ent ns us)) ∧ H d2 = some (.dK (ent ns2 us2)) ∧ us.length = ns.length ∧ us2.length = ns2.length ∧ d1 ≠ d2 ∧ d1 ∉ as1 ∧ d1 ∉ as2 ∧ (∀ g ∈ ns, Word g) ∧ (∀ g ∈ ns2, Word g) ∧ ns.length ≤ 6 ∧ ns2.length ≤ 6 ∧ ObsOk fs ob1.length ob1 ∧ ObsOk fs ob2.length ob2 ∧
  Bnd ob1.length us ∧ Bnd ob2.length us2 ∧ ob1.length ≤ 200 ∧ ob2.length ≤ 200 ∧ ∀ (b : Bool) (H' : Hp), Same H H' → (b = true ↔ ns.Perm ns2 ∧ IsoD fs ob1 ob2 ns us ns2 us2) → Q (.bl b) H'
abbrev NAlike : List Str := ["_law_fields", "_law_one", "_law_two", "_law_names_here", "_law_others", "_law_name", "_law_left", "_law_right", "_law_queue", "_law_done", "_law_pair_here", "_law_field"]
theorem scAlike : FnScope NAlike ["_law_fields", "_law_one", "_law_two", "_law_names_here", "_law_others"] (defScope sAlike) := ⟨rfl, rfl, rfl, by decide +kernel, rfl, by decide +kernel, by decide +kernel⟩
theorem dpStrs {H : Hp} : ∀ xs : List Str, DpAll K H (xs.map V.str) (xs.map PyData.str)
  | [] => .nil
  | x :: xs => .cons (.str x) (dpStrs xs)
theorem strs_eqv (a b : List Str) : PyData.eqv (.list (a.map .str)) (.list (b.map .str)) = decide (a = b) := eqvAll_map _ str_eqv a b
/-- the three objects of the walk stand, behind H -/
structure QAt (H H' : Hp) (l r q : Addr) (qs : List (Nat × Nat)) (ts : List Addr) (c1 c2 : Nat) (I : (Nat → Nat → Prop) → Prop) : Prop where
  off : ∀ b o, H b = some o → H' b = some o
  l0 : H l = none
  r0 : H r = none
  q0 : H q = none
  lr : l ≠ r
  pa : PairAt H' l r q qs ts
  ok : QOk qs
  bd : ∀ p ∈ qs, p.1 < c1 ∧ p.2 < c2
  iso : ∀ R, I R → ∀ p ∈ qs, R p.1 p.2
theorem QAt.len {H H' : Hp} {l r q : Addr} {qs : List (Nat × Nat)} {ts : List Addr} {c1 c2 : Nat} {I : (Nat → Nat → Prop) → Prop} (h : QAt H H' l r q qs ts c1 c2 I) : qs.length ≤ c1 := by
  have := nd_len (c := c1) h.ok.l fun x hx => by
    obtain ⟨p, hp, e⟩ := List.mem_map.mp hx
    rw [← e]
    exact (h.bd p hp).1
  rwa [List.length_map] at this
theorem QAt.step {H H1 H2 : Hp} {l r q : Addr} {qs qs' : List (Nat × Nat)} {ts ts' : List Addr} {c1 c2 : Nat} {I : (Nat → Nat → Prop) → Prop} {x y : ON} (h : QAt H H1 l r q qs ts c1 c2 I) (e : pairB qs x y = some qs') (pa : PairAt H2 l r q qs' ts') (o : Off3 l r q H1 H2)
    (hx : ∀ n, x = some n → n < c1) (hy : ∀ n, y = some n → n < c2) (hR : ∀ R, I R → OR R x y) : QAt H H2 l r q qs' ts' c1 c2 I ∧ (∀ p ∈ qs, p ∈ qs') ∧ OR (fun a b => (a, b) ∈ qs') x y ∧ ∀ (j : Nat) (p : Nat × Nat), qs[j]? = some p → qs'[j]? = some p := by
  obtain ⟨ok, sub, or, iso, gr⟩ := pairB_ok e h.ok
  refine ⟨⟨fun b u hb => o b u (ne_of_none hb h.l0) (ne_of_none hb h.r0) (ne_of_none hb h.q0) (h.off b u hb), h.l0, h.r0, h.q0, h.lr, pa, ok, ?_, fun R hI => iso R (hR R hI) (h.iso R hI)⟩, sub, or, fun j p hj => ?_⟩
  rotate_left
  · rcases gr with z | ⟨a, b, _, _, z⟩
    · rw [z]; exact hj
    · rw [z, List.getElem?_append_left (List.getElem?_eq_some_iff.mp hj).1]
      exact hj
  rcases gr with z | ⟨a, b, ea, eb, z⟩
  · rw [z]; exact h.bd
  · rw [z]
    intro p hp
    rcases List.mem_append.mp hp with z | z
    · exact h.bd p z
    · rw [List.mem_singleton.mp z]
      exact ⟨hx a ea, hy b eb⟩
theorem DGet.frz {H : Hp} {a : Addr} {o : Obj} {kvs : List (Key × V)} {k : Key} (e : H a = some (.frz o (.dK kvs))) : DGet H a (kV k) (valV kvs k) := DGet.rd (.inr ⟨o, e⟩)
theorem ent_at : ∀ {ks : List Str} {vs : List ON} {i : Nat} {k : Key} {v : V}, (ent ks vs)[i]? = some (k, v) → ∃ g, ks[i]? = some g ∧ k = Sum.inr g
  | [], _, _, _, _, h => by cases h
  | _ :: _, [], _, _, _, h => by cases h
  | g :: ks, x :: vs, 0, k, v, h => by
    have h1 : ((Sum.inr g : Key), optV x) = (k, v) := Option.some.inj h
    exact ⟨g, rfl, (congrArg Prod.fst h1).symm⟩
  | g :: ks, x :: vs, i + 1, k, v, h => ent_at (ks := ks) (vs := vs) (i := i) h
theorem PairAt.upd {H : Hp} {l r q x : Addr} {qs : List (Nat × Nat)} {ts : List Addr} {o : HO} (h : PairAt H l r q qs ts) (hl : l ≠ x) (hr : r ≠ x) (hq : q ≠ x) (ht : ∀ xs, H x ≠ some (.tup xs)) : PairAt (L2.upd H x o) l r q qs ts := by
  refine ⟨by rw [upd_ne hl]; exact h.l, by rw [upd_ne hr]; exact h.r, by rw [upd_ne hq]; exact h.q, h.len, fun i t p e1 e2 => ?_⟩
  have e := h.at_ i t p e1 e2
  have ne : t ≠ x := fun z => ht _ (by rw [← z]; exact e)
  rw [upd_ne ne]
  exact e
theorem upd_self {H : Hp} {d : Addr} {o : HO} (h : H d = some o) : upd H d o = H := by
  funext b
  unfold L2.upd
  split
  · rename_i e; rw [e, h]
  · rfl
theorem upd_frz2 {H : Hp} {d D : Addr} {o u x : HO} (h : H d = some u) (ne : D ≠ d) : upd (upd (upd H d o) D x) d u = upd H D x := by
  funext b
  by_cases e1 : b = d
  · rw [e1, upd_same, upd_ne ne.symm, h]
  · rw [upd_ne e1]
    by_cases e2 : b = D
    · rw [e2, upd_same, upd_same]
    · rw [upd_ne e2, upd_ne e2, upd_ne e1]
theorem ok_alike {f1 : Addr} {fd1 : FuncData} (F : FnP K "_law_alike" "_law_alike" sAlike f fd) (B : Blt mg) (C : Cal P w K mg base "_law_pair" 1 NPair spPair f1 fd1) :
    FnOk P w K mg base CX0 2 f fd ["_law_fields", "_law_one", "_law_two", "_law_names_here", "_law_others"] spAlike := by
  refine F.ok scAlike (fun vs H Q E h => ?_) (fun cdv A outer s H vs Q E hr h => ?_)
  · obtain ⟨a, o1, o2, d1, d2, fs, ob1, ob2, as1, as2, ns, ns2, us, us2, rfl, _⟩ := h
    rfl
  · obtain ⟨a, o1, o2, d1, d2, fs, ob1, ob2, as1, as2, ns, ns2, us, us2, rfl, ha, O1, O2, hd1, hd2, hl1, hl2, hdd, hda1, hda2, hw1, hw2, h6, h62, ok1, ok2, hb1, hb2, h200, h2002, k⟩ := h
    have nd := scAlike.nd
    have hu := hu_of hr
    refine ⟨_, PSs.nox (pss_cons (ps_if (pt_cmpR (op_neD hr.units)
        (pe_callB cr_sortedS (by rfl) B.sorted (by decide +kernel) (pa_cons (pe_lock (pe_lc (own := [("_law_name", 5)]) (g := gName 5) (tt := tYes) rfl nd (pi_keys (pv 3)) (blkOk_by (N := NAlike) (sc := defScope sAlike) (by decide +kernel))
          (fun _ _ _ _ _ => pg_name (i := 5) nd rfl (Or.inl rfl)) (fun _ _ _ _ _ => pts_nil) (fun _ _ _ _ _ => pv 5))) pa_nil))
        (pe_callB cr_sortedS (by rfl) B.sorted (by decide +kernel) (pa_cons (pe_lock (pe_lc (own := [("_law_name", 5)]) (g := gName 5) (tt := tYes) rfl nd (pi_keys (pv 4)) (blkOk_by (N := NAlike) (sc := defScope sAlike) (by decide +kernel))
          (fun _ _ _ _ _ => pg_name (i := 5) nd rfl (Or.inl rfl)) (fun _ _ _ _ _ => pts_nil) (fun _ _ _ _ _ => pv 5))) pa_nil)) (nomark _)) (pss_one (ps_ret pe_bl)) pss_nil)
      (pss_cons (ps_set (i := 6) nd rfl (Or.inl rfl) pe_dnewK) (pss_cons (ps_set (i := 7) nd rfl (Or.inl rfl) pe_dnewK) (pss_cons (ps_set (i := 8) nd rfl (Or.inl rfl) (pe_lst pa_nil))
      (pss_cons (ps_lock (ps_for PassesOwn.never rfl (pi_keys (pv 3)) (pg_name (i := 5) nd rfl (Or.inl rfl))
        (pss_one (ps_if (pt_not (pt_val (pe_cal C hr (pa_cons (pv 6) (pa_cons (pv 7) (pa_cons (pv 8) (pa_cons (pe_dget hu (pv 3) (pv 5) (fun _ _ => rfl)) (pa_cons (pe_dget hu (pv 4) (pv 5) (fun _ _ => rfl)) pa_nil)))))))) (pss_one (ps_ret pe_bl)) pss_nil))))
      (pss_cons (ps_set (i := 9) nd rfl (Or.inl rfl) pe_int)
      (pss_cons (ps_while PassesOwn.never (pt_cmpR op_lt (pv 9) (pe_callB call_len_seq (by rfl) B.len PySem.boot_len (pa_cons (pv 8) pa_nil)) (nomark _))
        (pss_cons (ps_set (i := 10) nd rfl (Or.inl rfl) (pe_ix ix_list (pv 8) (pv 9) (fun _ _ => rfl)))
        (pss_cons (ps_for PassesOwn.never rfl (pi_list (pv 0)) (pg_name (i := 11) nd rfl (Or.inl rfl))
          (pss_one (ps_if (pt_not (pt_val (pe_cal C hr (pa_cons (pv 6) (pa_cons (pv 7) (pa_cons (pv 8) (pa_cons (pe_dget hu (pe_ix ix_list (pv 1) (pe_ix ix_tup (pv 10) pe_int (fun _ _ => rfl)) (fun _ _ => rfl)) (pv 11) (fun _ _ => rfl))
            (pa_cons (pe_dget hu (pe_ix ix_list (pv 2) (pe_ix ix_tup (pv 10) pe_int (fun _ _ => rfl)) (fun _ _ => rfl)) (pv 11) (fun _ _ => rfl)) pa_nil)))))))) (pss_one (ps_ret pe_bl)) pss_nil)))
        (pss_one (ps_set (i := 9) nd rfl (Or.inl rfl) (pe_op op_add (pv 9) pe_int))))))
      (pss_one (ps_ret pe_bl))))))))), ?_⟩
    -- sorted(names) twice
    have lc : ∀ (H0 : Hp) (d : Addr) (ks : List Str) (vs : List ON) (od : Obj) (D : Addr), Same H H0 → vs.length = ks.length → ks.length ≤ 6 → H0 d = some (.dK (ent ks vs)) → (upd H0 d (.frz od (.dK (ent ks vs)))) D = none → H0 D = none ∧ D ≠ d := fun H0 d ks vs od D _ _ _ hd hD => by
      have ne : D ≠ d := fun z => by rw [z, upd_same] at hD; cases hD
      rw [upd_ne ne] at hD
      exact ⟨hD, ne⟩
    refine ⟨d1, _, hd1, trivial, fun od => ?_⟩
    refine ⟨_, rfl, d1, od, rfl, .inl ⟨_, upd_same, fun D hD => ?_⟩⟩
    obtain ⟨hD0, hDd⟩ := lc H d1 ns us od D (Same.refl H) hl1 h6 hd1 hD
    refine lc_keys (d := d1) (o := od) (kvs := ent ns us) (fun i H' => H' = upd (upd H d1 (.frz od (.dK (ent ns us)))) D (.lst ((ns.take i).map V.str))) rfl (fun i H' _ e => by rw [e, upd_ne hDd.symm, upd_same]) ?_ ?_
    · rintro i kk v H' hk rfl
      obtain ⟨g, hg, rfl⟩ := ent_at hk
      refine ⟨rfl, ?_⟩
      refine ⟨_, rfl, _, upd_same, small1000 (by rw [List.length_map, List.length_take]; omega), ?_⟩
      rw [upd_upd, take_succ' hg, List.map_append]
      rfl
    rintro H' rfl
    rw [ent_len hl1, List.take_length]
    refine ⟨by rw [upd_ne hDd.symm, upd_same], ?_⟩
    rw [upd_frz2 hd1 hDd]
    refine ⟨D, ns, rfl, SqL.of upd_same, by omega, fun y1 p1 hp1 hs1 hpn1 => ?_⟩
    have s2 : Same H (upd (upd H D (.lst (ns.map V.str))) p1 (.lst (y1.map V.str))) := grow' (grow hD0) hpn1
    have hy1 : (upd (upd H D (.lst (ns.map V.str))) p1 (.lst (y1.map V.str))) p1 = some (.lst (y1.map V.str)) := upd_same
    generalize upd (upd H D (.lst (ns.map V.str))) p1 (.lst (y1.map V.str)) = H2 at s2 hy1
    have hd22 := s2 _ _ hd2
    refine ⟨d2, _, hd22, trivial, fun od => ?_⟩
    refine ⟨_, rfl, d2, od, rfl, .inl ⟨_, upd_same, fun D2 hD2 => ?_⟩⟩
    obtain ⟨hD20, hDd2⟩ := lc H2 d2 ns2 us2 od D2 s2 hl2 h62 hd22 hD2
    refine lc_keys (d := d2) (o := od) (kvs := ent ns2 us2) (fun i H' => H' = upd (upd H2 d2 (.frz od (.dK (ent ns2 us2)))) D2 (.lst ((ns2.take i).map V.str))) rfl (fun i H' _ e => by rw [e, upd_ne hDd2.symm, upd_same]) ?_ ?_
    · rintro i kk v H' hk rfl
      obtain ⟨g, hg, rfl⟩ := ent_at hk
      refine ⟨rfl, ?_⟩
      refine ⟨_, rfl, _, upd_same, small1000 (by rw [List.length_map, List.length_take]; omega), ?_⟩
      rw [upd_upd, take_succ' hg, List.map_append]
      rfl
    rintro H' rfl
    rw [ent_len hl2, List.take_length]
    refine ⟨by rw [upd_ne hDd2.symm, upd_same], ?_⟩
    rw [upd_frz2 hd22 hDd2]
    refine ⟨D2, ns2, rfl, SqL.of upd_same, by omega, fun y2 p2 hp2 hs2 hpn2 => ?_⟩
    have s3' : Same H2 (upd (upd H2 D2 (.lst (ns2.map V.str))) p2 (.lst (y2.map V.str))) := grow' (grow hD20) hpn2
    have s3 := s2.trans s3'
    have hy1' := s3' _ _ hy1
    have hy2 : (upd (upd H2 D2 (.lst (ns2.map V.str))) p2 (.lst (y2.map V.str))) p2 = some (.lst (y2.map V.str)) := upd_same
    generalize upd (upd H2 D2 (.lst (ns2.map V.str))) p2 (.lst (y2.map V.str)) = H3 at s3 s3' hy1' hy2
    refine ⟨.list (y1.map .str), .list (y2.map .str), .lst (SqL.of hy1') (dpStrs _), .lst (SqL.of hy2) (dpStrs _), strs_shaped fun g hg => hw1 g (hp1.mem_iff.mp hg), strs_shaped fun g hg => hw2 g (hp2.mem_iff.mp hg), _, rfl, ?_⟩
    rw [strs_eqv]
    by_cases hy : y1 = y2
    rotate_left
    · refine iteNY hy (k false H3 s3 ⟨fun z => (by cases z), fun ⟨hpm, _⟩ => absurd (sorted_uniq ((hp1.trans hpm).trans hp2.symm) hs1 hs2) hy⟩)
    refine iteNS hy ?_
    have hperm : ns.Perm ns2 := hp1.symm.trans (by rw [hy]; exact hp2)
    -- left = {}; right = {}; queue = []
    intro l hl
    have s4 := grow' (o := .dK []) s3 hl
    have hl0 := s3.free hl
    intro r hr'
    have s5 := grow' (o := .dK []) s4 hr'
    have hr0 := s4.free hr'
    refine ⟨Nat.zero_le _, fun q hq => ?_⟩
    have s6 := grow' (o := .lst []) s5 hq
    have hq0 := s5.free hq
    have rl : r ≠ l := fun z => by rw [z, upd_same] at hr'; cases hr'
    have qr : q ≠ r := fun z => by rw [z, upd_same] at hq; cases hq
    have ql : q ≠ l := fun z => by rw [z, upd_ne rl.symm, upd_same] at hq; cases hq
    have Q0 : QAt H (upd (upd (upd H3 l (.dK [])) r (.dK [])) q (.lst [])) l r q [] [] ob1.length ob2.length (IsoBy (valF fs ob1) (valF fs ob2) fs ns (look1 ns us) (look1 ns2 us2)) :=
      ⟨s6, hl0, hr0, hq0, rl.symm, ⟨by rw [upd_ne ql.symm, upd_ne rl.symm, upd_same]; rfl, by rw [upd_ne qr.symm, upd_same]; rfl, upd_same, rfl, fun i t p e => by cases e⟩, QOk.nil, fun p hp => (by cases hp), fun R _ p hp => (by cases hp)⟩
    generalize upd (upd (upd H3 l (.dK [])) r (.dK [])) q (.lst []) = H6 at s6 Q0
    have dl : l ≠ d1 := (ne_of_none hd1 hl0).symm
    have dr : r ≠ d1 := (ne_of_none hd1 hr0).symm
    have dq : q ≠ d1 := (ne_of_none hd1 hq0).symm
    have hd16 := s6 _ _ hd1
    refine ⟨d1, _, hd16, trivial, fun od => ?_⟩
    refine ⟨_, rfl, d1, od, rfl, .inl ⟨_, upd_same, for_keys (d := d1) (o := od) (kvs := ent ns us) (fun i σ H' => ∃ U qs ts v5, σ = [some (.ref a), some (.ref o1), some (.ref o2), some (.ref d1), some (.ref d2), v5, some (.ref l), some (.ref r), some (.ref q), none, none, none] ∧
        H' = upd U d1 (.frz od (.dK (ent ns us))) ∧ QAt H U l r q qs ts ob1.length ob2.length (IsoBy (valF fs ob1) (valF fs ob2) fs ns (look1 ns us) (look1 ns2 us2)) ∧ ∀ g ∈ ns.take i, OR (fun a b => (a, b) ∈ qs) (look1 ns us g) (look1 ns2 us2 g))
        ⟨H6, [], [], none, rfl, rfl, Q0, fun g hg => (by cases hg)⟩ (fun i σ H' _ ⟨U, _, _, _, _, e, _⟩ => by rw [e, upd_same]) ?_ ?_⟩⟩
    · rintro i kk v σ H' hk ⟨U, qs, ts, v5, rfl, rfl, QA, hor⟩
      obtain ⟨g, hg, rfl⟩ := ent_at hk
      have hgn := List.mem_of_getElem? hg
      have e1 := ent_val hl1 hgn
      have e2 := ent_val hl2 (hperm.mem_iff.mp hgn)
      have hU1 := QA.off _ _ hd1
      have PA' : PairAt (upd U d1 (.frz od (.dK (ent ns us)))) l r q qs ts := QA.pa.upd dl dr dq (fun xs z => by rw [hU1] at z; cases z)
      refine ⟨_, rfl, _, rfl, _, rfl, _, rfl, _, rfl, d1, optV (look1 ns us g), rfl, by rw [← e1]; exact DGet.frz (k := Sum.inr g) upd_same, ?_⟩
      refine ⟨_, rfl, _, rfl, d2, optV (look1 ns2 us2 g), rfl, by rw [← e2]; exact DGet.k (k := Sum.inr g) (Eq.trans (upd_ne hdd.symm) (QA.off _ _ hd2)), ?_⟩
      have hlen := QA.len
      refine ⟨l, r, q, _, _, qs, ts, rfl, PA', QA.lr, by omega, fun hn => ⟨_, rfl, ?_⟩, fun qs' ts' H2 he PA2 of2 => ⟨_, rfl, ?_⟩⟩
      · refine iteT ⟨upd_same, ?_⟩
        rw [upd_frz hU1]
        refine k false U QA.off ⟨fun z => (by cases z), fun ⟨_, R, hI⟩ => ?_⟩
        exact absurd (hI.nm g hgn) (pairB_no hn hI.fn hI.inj (QA.iso R hI))
      · refine iteF ?_
        have hf2 : H2 d1 = some (.frz od (.dK (ent ns us))) := of2 _ _ dl.symm dr.symm dq.symm upd_same
        have PA3 : PairAt (upd H2 d1 (.dK (ent ns us))) l r q qs' ts' := PA2.upd dl dr dq (fun xs z => by rw [hf2] at z; cases z)
        have o3 : Off3 l r q U (upd H2 d1 (.dK (ent ns us))) := fun b o h1 h2 h3 e => by
          by_cases hb : b = d1
          · rw [hb, hU1] at e
            rw [hb, upd_same]
            exact e
          · rw [upd_ne hb]
            exact of2 b o h1 h2 h3 (by rw [upd_ne hb]; exact e)
        obtain ⟨QA2, sub, or, _⟩ := QA.step he PA3 o3 (look1_bd hb1) (look1_bd hb2) fun R hI => hI.nm g hgn
        refine ⟨upd H2 d1 (.dK (ent ns us)), qs', ts', _, rfl, by rw [upd_upd, upd_self hf2], QA2, fun g' hg' => ?_⟩
        rw [take_succ' hg] at hg'
        rcases List.mem_append.mp hg' with z | z
        · exact (hor g' z).mono fun a b h => sub _ h
        · rw [List.mem_singleton.mp z]
          exact or
    · rintro σ H' ⟨U, qs, ts, v5, rfl, rfl, QA, hor⟩
      rw [ent_len hl1, List.take_length] at hor
      have hU1 := QA.off _ _ hd1
      refine ⟨upd_same, ?_⟩
      rw [upd_frz hU1]
      refine ⟨fun m σ H' => ∃ (dn : Nat) (qs : List (Nat × Nat)) (ts : List Addr) (v5 v10 v11 : Option V), σ = [some (.ref a), some (.ref o1), some (.ref o2), some (.ref d1), some (.ref d2), v5, some (.ref l), some (.ref r), some (.ref q), some (.int (dn : Int)), v10, v11] ∧
        QAt H H' l r q qs ts ob1.length ob2.length (IsoBy (valF fs ob1) (valF fs ob2) fs ns (look1 ns us) (look1 ns2 us2)) ∧ m = ob1.length - dn ∧ dn ≤ qs.length ∧ (∀ g ∈ ns, OR (fun a b => (a, b) ∈ qs) (look1 ns us g) (look1 ns2 us2 g)) ∧
        ∀ (j : Nat) (p : Nat × Nat), j < dn → qs[j]? = some p → ∀ g ∈ fs, OR (fun a b => (a, b) ∈ qs) (valF fs ob1 p.1 g) (valF fs ob2 p.2 g), ⟨_, 0, qs, ts, v5, none, none, rfl, QA, rfl, Nat.zero_le _, hor, fun j p h => absurd h (Nat.not_lt_zero j)⟩, ?_⟩
      rintro m σ H1 ⟨dn, qs, ts, v5, v10, v11, rfl, QA, rfl, hdn, hor, hcl⟩
      refine ⟨_, rfl, _, rfl, q, _, rfl, .inl (SqL.of QA.pa.q), _, _, rfl, rfl, _, rfl, ?_⟩
      have hlen := QA.len
      by_cases hlt : dn < qs.length
      rotate_left
      · refine iteN (by rw [List.length_map, QA.pa.len]; omega) ?_
        refine k true H1 QA.off ⟨fun _ => ⟨hperm, fun a b => (a, b) ∈ qs, ⟨fun a b b' h1 h2 => QA.ok.fn h1 h2, fun a a' b h1 h2 => QA.ok.inj h1 h2, hor, fun a b hab g hg => ?_⟩⟩, fun _ => rfl⟩
        obtain ⟨j, hj, e⟩ := List.mem_iff_getElem.mp hab
        exact hcl j (a, b) (by omega) (by rw [List.getElem?_eq_getElem hj, e]) g hg
      refine iteY (by rw [List.length_map, QA.pa.len]; omega) ?_
      have hlt2 : dn < ts.length := by rw [QA.pa.len]; exact hlt
      have hp := List.getElem?_eq_getElem hlt
      have ht := List.getElem?_eq_getElem hlt2
      generalize qs[dn] = p at hp
      generalize ts[dn] = t at ht
      have hT := QA.pa.at_ dn t p ht hp
      have hpm := List.mem_of_getElem? hp
      obtain ⟨hp1c, hp2c⟩ := QA.bd p hpm
      obtain ⟨x1, b1, hx1, hb1', hHx1⟩ := objs_get O1 hp1c
      obtain ⟨x2, b2, hx2, hb2', hHx2⟩ := objs_get O2 hp2c
      have tl : t ≠ l := ne_of hT QA.pa.l (fun z => by cases z)
      have tr : t ≠ r := ne_of hT QA.pa.r (fun z => by cases z)
      have tq : t ≠ q := ne_of hT QA.pa.q (fun z => by cases z)
      refine ⟨fun σ' H' => ∃ (dn2 : Nat) (qs' : List (Nat × Nat)) (ts' : List Addr) (v11 : Option V), σ' = [some (.ref a), some (.ref o1), some (.ref o2), some (.ref d1), some (.ref d2), v5, some (.ref l), some (.ref r), some (.ref q), some (.int (dn2 : Int)), some (.ref t), v11] ∧ dn2 = dn + 1 ∧
        QAt H H' l r q qs' ts' ob1.length ob2.length (IsoBy (valF fs ob1) (valF fs ob2) fs ns (look1 ns us) (look1 ns2 us2)) ∧ (∀ x ∈ qs, x ∈ qs') ∧ (∀ (j : Nat) (x : Nat × Nat), qs[j]? = some x → qs'[j]? = some x) ∧ ∀ g ∈ fs, OR (fun a b => (a, b) ∈ qs') (valF fs ob1 p.1 g) (valF fs ob2 p.2 g), ?_, ?_⟩
      · rintro σ' H' ⟨dn2, qs', ts', v11, rfl, rfl, QA2, sub, pre, hall⟩
        have hl2' : dn + 1 ≤ qs'.length := (List.getElem?_eq_some_iff.mp (pre dn p hp)).1
        refine ⟨_, by omega, dn + 1, qs', ts', v5, _, v11, rfl, QA2, rfl, hl2', fun g hg => (hor g hg).mono fun a b h => sub _ h, fun j x hj hx g hg => ?_⟩
        by_cases hj2 : j < dn
        · have h3 : qs[j]? = some qs[j] := List.getElem?_eq_getElem (by omega)
          have h4 := pre j _ h3
          rw [h4] at hx
          have := Option.some.inj hx
          subst this
          exact (hcl j _ hj2 h3 g hg).mono fun a b h => sub _ h
        · have hj3 : j = dn := by omega
          subst hj3
          rw [pre j p hp] at hx
          have := Option.some.inj hx
          subst this
          exact hall g hg
      · refine ⟨_, rfl, _, rfl, q, _, _, _, rfl, rfl, SqL.of QA.pa.q, at_of (j := dn) (v := .ref t) rfl (by rw [List.getElem?_map, ht]; rfl), ?_⟩
        refine ⟨_, rfl, a, rfl, ⟨_, SqL.of (QA.off _ _ ha)⟩, for_list (K := K) (a := a) (xs := fs.map .str) (fun i σ H' => ∃ (qs' : List (Nat × Nat)) (ts' : List Addr) (v11 : Option V), σ = [some (.ref a), some (.ref o1), some (.ref o2), some (.ref d1), some (.ref d2), v5, some (.ref l), some (.ref r), some (.ref q), some (.int (dn : Int)), some (.ref t), v11] ∧
          QAt H H' l r q qs' ts' ob1.length ob2.length (IsoBy (valF fs ob1) (valF fs ob2) fs ns (look1 ns us) (look1 ns2 us2)) ∧ (∀ x ∈ qs, x ∈ qs') ∧ (∀ (j : Nat) (x : Nat × Nat), qs[j]? = some x → qs'[j]? = some x) ∧ H' t = some (.tup [.int (p.1 : Int), .int (p.2 : Int)]) ∧ ∀ g ∈ fs.take i, OR (fun a b => (a, b) ∈ qs') (valF fs ob1 p.1 g) (valF fs ob2 p.2 g))
          ⟨qs, ts, v11, rfl, QA, fun _ h => h, fun _ _ h => h, hT, fun g hg => (by cases hg)⟩ (fun i σ H' _ ⟨_, _, _, _, QA', _⟩ => SqL.of (QA'.off _ _ ha)) ?_ ?_⟩
        · rintro i y σ H' hy' ⟨qs', ts', v11, rfl, QA', sub, pre, hT', hall⟩
          obtain ⟨g, hg, rfl⟩ := map_get hy'
          have hgm := List.mem_of_getElem? hg
          have e1 := ent_val (ok1 b1 (List.mem_of_getElem? hb1')).1 hgm
          have e2 := ent_val (ok2 b2 (List.mem_of_getElem? hb2')).1 hgm
          have w1 := valF_at (fs := fs) (f := g) hb1'
          have w2 := valF_at (fs := fs) (f := g) hb2'
          rw [← w1] at e1
          rw [← w2] at e2
          refine ⟨_, rfl, _, rfl, _, rfl, _, rfl, _, rfl, t, _, _, _, rfl, rfl, SqT.of hT', at_of (j := 0) rfl rfl, o1, _, _, _, rfl, rfl, SqL.of (QA'.off _ _ O1.lst), at_of (j := p.1) (v := .ref x1) rfl (by rw [List.getElem?_map, hx1]; rfl), ?_⟩
          refine ⟨_, rfl, x1, optV (valF fs ob1 p.1 g), rfl, by rw [← e1]; exact DGet.k (k := Sum.inr g) (QA'.off _ _ hHx1), ?_⟩
          refine ⟨_, rfl, _, rfl, t, _, _, _, rfl, rfl, SqT.of hT', at_of (j := 1) rfl rfl, o2, _, _, _, rfl, rfl, SqL.of (QA'.off _ _ O2.lst), at_of (j := p.2) (v := .ref x2) rfl (by rw [List.getElem?_map, hx2]; rfl), ?_⟩
          refine ⟨_, rfl, x2, optV (valF fs ob2 p.2 g), rfl, by rw [← e2]; exact DGet.k (k := Sum.inr g) (QA'.off _ _ hHx2), ?_⟩
          have hlen' := QA'.len
          refine ⟨l, r, q, _, _, qs', ts', rfl, QA'.pa, QA'.lr, by omega, fun hn => ⟨_, rfl, ?_⟩, fun qs2 ts2 H2 he PA2 of2 => ⟨_, rfl, ?_⟩⟩
          · refine iteT ?_
            refine k false H' QA'.off ⟨fun z => (by cases z), fun ⟨_, R, hI⟩ => ?_⟩
            exact absurd (hI.cl p.1 p.2 (QA.iso R hI p hpm) g hgm) (pairB_no hn hI.fn hI.inj (QA'.iso R hI))
          · refine iteF ?_
            obtain ⟨QA2, sub2, or2, pre2⟩ := QA'.step he PA2 of2 (fun n e => valF_bd ok1 e) (fun n e => valF_bd ok2 e) fun R hI => hI.cl p.1 p.2 (QA.iso R hI p hpm) g hgm
            refine ⟨qs2, ts2, _, rfl, QA2, fun x hx => sub2 x (sub x hx), fun j x hx => pre2 j x (pre j x hx), of2 _ _ tl tr tq hT', fun g' hg' => ?_⟩
            rw [take_succ' hg] at hg'
            rcases List.mem_append.mp hg' with z | z
            · exact (hall g' z).mono fun a b h => sub2 _ h
            · rw [List.mem_singleton.mp z]
              exact or2
        · rintro σ H' ⟨qs', ts', v11, rfl, QA', sub, pre, hT', hall⟩
          rw [List.length_map, List.take_length] at hall
          exact ⟨_, rfl, _, _, rfl, rfl, dn + 1, qs', ts', v11, rfl, rfl, QA', sub, pre, hall⟩
end
end K5
end partK5H
section partK5I
set_option Elab.async false
set_option linter.all false
set_option maxRecDepth 100000
set_option maxHeartbeats 4000000
set_option pp.maxSteps 1500
/-! The law's second heap and its change. -/
namespace K5
open PySem PySem.Spec PyProof.Rows L2
section
variable {P : Program} {w : World} {K : PySem.W.Frag} {mg : Str → Option Value} {base : Heap} {f : Addr} {fd : FuncData}
abbrev nInts (sl : List Nat) : List V := sl.map fun n : Nat => V.int (n : Int)
theorem ints_ins (sl : List Nat) (j k : Nat) : (nInts sl).take j ++ [V.int (k : Int)] ++ (nInts sl).drop j = nInts (sl.take j ++ [k] ++ sl.drop j) := by
  unfold nInts
  rw [List.map_append, List.map_append, List.map_take, List.map_drop]
  rfl
theorem ins_perm {sl : List Nat} {i j : Nat} (h : sl.Perm (List.range i)) : (sl.take j ++ [i] ++ sl.drop j).Perm (List.range (i + 1)) := by
  rw [List.range_succ, List.append_assoc]
  refine List.Perm.trans List.perm_middle ?_
  show (i :: (sl.take j ++ sl.drop j)).Perm _
  rw [List.take_append_drop]
  exact (List.Perm.cons i h).trans (List.perm_append_singleton i (List.range i)).symm
/-! #### _law_second -/
def spSecond : Sp := fun vs H Q _ => ∃ (p c a o : Addr) (fs : List Str) (obs : List (List ON)) (as : List Addr) (tot : Nat), vs = [.ref p, .ref a, .ref o, .int (obs.length : Int), .int (tot : Int)] ∧ Pool H p c ∧ Apart p c a ∧ Apart p c o ∧ H a = some (.lst (fs.map .str)) ∧ ObjsAt H o fs obs as ∧ ObsOk fs obs.length obs ∧
  fs.Nodup ∧ fs.length ≤ 2 ∧ obs.length ≤ tot ∧ tot ≤ 100 ∧ ∀ (t s q : Addr) (sl : List Nat) (obs2 : List (List ON)) (as2 : List Addr) (H' : Hp), H t = none → H' t = some (.tup [.ref s, .ref q]) → H s = none → H' s = some (.lst (nInts sl)) → H q = none → ObjsAt H' q fs obs2 as2 → (∀ x ∈ as2, H x = none) →
  sl.Perm (List.range tot) → obs2.length = tot → ObsOk fs tot obs2 → Pool H' p c → Off p c H H' → Q (.ref t) H'
abbrev NSecond : List Str := ["_law_pool", "_law_fields", "_law_objects_here", "_law_count", "_law_total", "_law_slots", "_law_k", "_law_second_here", "_law_number", "_law_item", "_law_field"]
theorem scSecond : FnScope NSecond ["_law_pool", "_law_fields", "_law_objects_here", "_law_count", "_law_total"] (defScope sSecond) := ⟨rfl, rfl, rfl, by decide +kernel, rfl, by decide +kernel, by decide +kernel⟩
theorem ok_second {f1 f2 f3 : Addr} {fd1 fd2 fd3 : FuncData} (F : FnP K "_law_second" "_law_second" sSecond f fd) (B : Blt mg) (C : Cal P w K mg base "_law_draw" 1 ["_law_pool", "_law_limit"] spDraw f1 fd1) (C2 : Cal P w K mg base "_law_moved" 1 ["_law_value_here", "_law_slots"] spMoved f2 fd2)
    (C3 : Cal P w K mg base "_law_value" 2 ["_law_pool", "_law_count"] spValue f3 fd3) : FnOk P w K mg base CX0 3 f fd ["_law_pool", "_law_fields", "_law_objects_here", "_law_count", "_law_total"] spSecond := by
  refine F.ok scSecond (fun vs H Q E h => ?_) (fun cdv A outer s H vs Q E hr h => ?_)
  · obtain ⟨p, c, a, o, fs, obs, as, tot, rfl, _⟩ := h
    rfl
  · obtain ⟨p, c, a, o, fs, obs, as, tot, rfl, hP, apa, apo, ha, O, ok, hfn, hf2, hct, h100, k⟩ := h
    have nd := scSecond.nd
    have hu := hu_of hr
    have hr1 : Room 1 _ := hr.mono (by decide)
    refine ⟨_, PSs.nox (pss_cons (ps_set (i := 5) nd rfl (Or.inl rfl) (pe_lst pa_nil))
      (pss_cons (ps_for PassesOwn.never rfl (pi_range1 (by rfl) B.range (pa_cons (pv 4) pa_nil)) (pg_name (i := 6) nd rfl (Or.inl rfl))
        (pss_one (ps_expr (pe_bm PySem.F.plainAttrs_list PySem.F.slot_list_insert PySem.F.type_list_insert mt_insert (pv 5) (pa_cons (pe_cal C hr1 (pa_cons (pv 0) (pa_cons (pe_op op_add (pe_callB call_len_seq (by rfl) B.len PySem.boot_len (pa_cons (pv 5) pa_nil)) pe_int) pa_nil))) (pa_cons (pv 6) pa_nil))))))
      (pss_cons (ps_set (i := 7) nd rfl (Or.inl rfl) (pe_lst pa_nil))
      (pss_cons (ps_for PassesOwn.never rfl (pi_list (pv 5)) (pg_name (i := 8) nd rfl (Or.inl rfl))
        (pss_cons (ps_set (i := 9) nd rfl (Or.inl rfl) pe_dnewK)
        (pss_cons (ps_for PassesOwn.never rfl (pi_list (pv 1)) (pg_name (i := 10) nd rfl (Or.inl rfl))
          (pss_one (ps_if (pt_cmpR op_lt (pv 8) (pv 3) (nomark _))
            (pss_one (ps_dput hu (pv 9) (pv 10) (pe_cal C2 hr1 (pa_cons (pe_dget hu (pe_ix ix_list (pv 2) (pv 8) (fun _ _ => rfl)) (pv 10) (fun _ _ => rfl)) (pa_cons (pv 5) pa_nil))) rfl))
            (pss_one (ps_dput hu (pv 9) (pv 10) (pe_cal C3 hr (pa_cons (pv 0) (pa_cons (pv 4) pa_nil))) rfl)))))
        (pss_one (ps_expr (pe_bm PySem.F.plainAttrs_list PySem.F.slot_list_append PySem.F.type_list_append mt_append (pv 7) (pa_cons (pv 9) pa_nil)))))))
      (pss_one (ps_ret (pe_tup (pa_cons (pv 5) (pa_cons (pv 7) pa_nil))))))))), ?_⟩
    refine ⟨Nat.zero_le _, fun sa hs => ?_⟩
    have aps : Apart p c sa := hP.apart hs
    refine ⟨_, rfl, _, rfl, by omega, by omega, for_range (lo := 0) (n := (tot : Int).toNat) (fun i σ H' => ∃ sl v6, σ = [some (.ref p), some (.ref a), some (.ref o), some (.int (obs.length : Int)), some (.int (tot : Int)), some (.ref sa), v6, none, none, none, none] ∧ Pool H' p c ∧ Off p c H H' ∧ H' sa = some (.lst (nInts sl)) ∧ sl.Perm (List.range i))
      ⟨[], none, rfl, hP.upd aps, off_upd hs Off.refl, upd_same, List.Perm.refl _⟩ ?_ ?_⟩
    · rintro i σ H1 hi ⟨sl, v6, rfl, hP1, o1, hS, hpm⟩
      have hsl : sl.length = i := by rw [hpm.length_eq, List.length_range]
      refine ⟨_, rfl, .inl ⟨rfl, _, SqL.of hS⟩, _, rfl, _, rfl, sa, _, rfl, .inl (SqL.of hS), _, _, rfl, rfl, p, c, i + 1, ?_, hP1, by omega, by omega, fun n H2 hn hP2 o2 => ?_⟩
      · show [V.ref p, V.int (((nInts sl).length : Int) + 1)] = _
        rw [List.length_map, hsl]
        rfl
      · refine ⟨_, rfl, sa, _, _, _, rfl, rfl, o2.at_ aps hS, small1000 (by rw [List.length_map]; omega), by omega, by omega, ?_⟩
        have e0 : (0 + (i : Int)) = (i : Int) := by omega
        refine ⟨sl.take n ++ [i] ++ sl.drop n, _, rfl, hP2.upd aps, off_upd hs (o1.trans o2), ?_, ins_perm hpm⟩
        rw [upd_same, e0, ← ints_ins]
        rfl
    rintro σ H1 ⟨sl, v6, rfl, hP1, o1, hS, hpm⟩
    have hpm2 : sl.Perm (List.range tot) := hpm
    have hsn : sl.Nodup := hpm2.nodup_iff.mpr List.nodup_range
    have hsm : ∀ n, n < tot → n ∈ sl := fun n hn => hpm2.mem_iff.mpr (List.mem_range.mpr hn)
    have hsl : sl.length = tot := by rw [hpm2.length_eq, List.length_range]
    refine ⟨Nat.zero_le _, fun q hq => ?_⟩
    have apq : Apart p c q := hP1.apart hq
    have hq0 : H q = Option.none := o1.free hP hP1 hq
    have sq : sa ≠ q := ne_of_none hS hq
    refine ⟨_, rfl, sa, rfl, ⟨_, SqL.of (Eq.trans (upd_ne sq) hS)⟩, for_list (K := K) (a := sa) (xs := nInts sl) (fun i σ H' => ∃ v8 v9 v10 obs2 as2, σ = [some (.ref p), some (.ref a), some (.ref o), some (.int (obs.length : Int)), some (.int (tot : Int)), some (.ref sa), v6, some (.ref q), v8, v9, v10] ∧ Pool H' p c ∧ Off p c H H' ∧ H' sa = some (.lst (nInts sl)) ∧
      ObjsAt H' q fs obs2 as2 ∧ obs2.length = i ∧ ObsOk fs tot obs2 ∧ ∀ x ∈ as2, H x = none) ⟨none, none, none, [], [], rfl, hP1.upd apq, off_upd hq0 o1, Eq.trans (upd_ne sq) hS, ObjsAt.nil upd_same, rfl, fun o ho => (by cases ho), fun x hx => (by cases hx)⟩
      (fun i σ H' _ ⟨_, _, _, _, _, _, _, _, h, _⟩ => SqL.of h) ?_ ?_⟩
    · rintro i y σ H2 hy ⟨v8, v9, v10, obs2, as2, rfl, hP2, o2, hS2, O2, hl2, ok2, hfr⟩
      obtain ⟨n, hn, rfl⟩ := map_get hy
      have hi : i < tot := by rw [← hsl]; exact (List.getElem?_eq_some_iff.mp hn).1
      intro x hx
      have apx : Apart p c x := hP2.apart hx
      obtain ⟨xq, xas⟩ := O2.out hx
      have hx0 : H x = Option.none := o2.free hP hP2 hx
      have xs : sa ≠ x := ne_of_none hS2 hx
      refine ⟨_, rfl, a, rfl, ⟨_, SqL.of (Eq.trans (upd_ne (ne_of_none (o2.at_ apa ha) hx)) (o2.at_ apa ha))⟩, for_list (K := K) (a := a) (xs := fs.map .str) (fun j σ H' => ∃ v10 ob, σ = [some (.ref p), some (.ref a), some (.ref o), some (.int (obs.length : Int)), some (.int (tot : Int)), some (.ref sa), v6, some (.ref q), some (.int (n : Int)), some (.ref x), v10] ∧
          Pool H' p c ∧ Off p c H H' ∧ H' sa = some (.lst (nInts sl)) ∧ ObjsAt H' q fs obs2 as2 ∧ H' x = some (.dK (ent (fs.take j) ob)) ∧ ob.length = j ∧ Bnd tot ob)
          ⟨v10, [], rfl, hP2.upd apx, off_upd hx0 o2, Eq.trans (upd_ne xs) hS2, O2.upd xq xas, upd_same, rfl, bnd_nil⟩ (fun j σ H' _ ⟨_, _, _, _, o', _⟩ => SqL.of (o'.at_ apa ha)) ?_ ?_⟩
      · rintro j y σ H3 hy3 ⟨v10, ob, rfl, hP3, o3, hS3, O3, hx3, hl3, hb3⟩
        obtain ⟨g, hg, rfl⟩ := map_get hy3
        have hgm := List.mem_of_getElem? hg
        have hgn := nd_not_take hfn hg
        have hj : j < fs.length := (List.getElem?_eq_some_iff.mp hg).1
        have hlt : ob.length = (fs.take j).length := by rw [List.length_take]; omega
        refine ⟨_, rfl, _, rfl, _, _, rfl, rfl, _, rfl, ?_⟩
        refine ite2 (fun hc => ?_) (fun hc => ?_)
        · have hnc : n < obs.length := by
            have h9 : (n : Int) < (obs.length : Int) := of_decide_eq_true hc
            omega
          obtain ⟨x1, b1, hx1, hb1, hHx1⟩ := objs_get O hnc
          have apx1 := hP.apartD hHx1
          obtain ⟨okl, okb⟩ := ok b1 (List.mem_of_getElem? hb1)
          have e1 := ent_val okl hgm
          refine ⟨_, rfl, _, rfl, o, _, _, _, rfl, rfl, SqL.of (o3.at_ apo O.lst), at_of (j := n) (v := .ref x1) rfl (by rw [List.getElem?_map, hx1]; rfl), ?_⟩
          refine ⟨_, rfl, x1, optV (look1 fs b1 g), rfl, by rw [← e1]; exact DGet.k (k := Sum.inr g) (o3.at_ apx1 hHx1), ?_⟩
          have hin : ∀ m, look1 fs b1 g = some m → m ∈ sl := fun m e => hsm m (by have := okb m (look1_mem e); omega)
          refine ⟨_, rfl, look1 fs b1 g, sa, sl, rfl, hS3, hsn, hin, ?_⟩
          refine ⟨_, rfl, _, rfl, x, _, rfl, DPut.k (k := Sum.inr g) hx3 (small1000 (by rw [ent_len hlt, List.length_take]; omega)), ?_⟩
          refine ⟨_, ob ++ [posN sl (look1 fs b1 g)], rfl, hP3.upd apx, off_upd hx0 o3, Eq.trans (upd_ne xs) hS3, O3.upd xq xas, ?_, by rw [List.length_append, hl3]; rfl, hb3.snoc fun m e => ?_⟩
          · rw [upd_same, ent_put_new hlt hgn, take_succ' hg]
          · cases z : look1 fs b1 g with
            | none => rw [z] at e; cases e
            | some m0 =>
              rw [z] at e
              have e9 : sl.idxOf m0 = m := Option.some.inj e
              rw [← e9, ← hsl]
              exact List.idxOf_lt_length_iff.mpr (hin m0 z)
        · refine ⟨_, rfl, _, rfl, p, c, tot, rfl, hP3, h100, fun v H4 hv hP4 o4 => ?_⟩
          have hx4 := o4.at_ apx hx3
          have O4 := O3.off o4 hP3 apq
          refine ⟨_, rfl, _, rfl, x, _, rfl, DPut.k (k := Sum.inr g) hx4 (small1000 (by rw [ent_len hlt, List.length_take]; omega)), ?_⟩
          refine ⟨_, ob ++ [v], rfl, hP4.upd apx, off_upd hx0 (o3.trans o4), Eq.trans (upd_ne xs) (o4.at_ aps hS3), O4.upd xq xas, ?_, by rw [List.length_append, hl3]; rfl, hb3.snoc hv⟩
          rw [upd_same, ent_put_new hlt hgn, take_succ' hg]
      · rintro σ H3 ⟨v10, ob, rfl, hP3, o3, hS3, O3, hx3, hl3, hb3⟩
        rw [List.length_map] at hl3 hx3
        rw [List.take_length] at hx3
        refine ⟨_, rfl, .inl ⟨rfl, _, SqL.of O3.lst⟩, _, rfl, q, _, _, rfl, rfl, O3.lst, small1000 (by rw [List.length_map, O3.len]; omega), ?_⟩
        refine ⟨_, _, _, obs2 ++ [ob], as2 ++ [x], rfl, hP3.upd apq, off_upd hq0 o3, Eq.trans (upd_ne sq) hS3, O3.snoc xq xas hx3, by rw [List.length_append, hl2]; rfl, ok2.snoc hl3 hb3, fun y hy => ?_⟩
        rcases List.mem_append.mp hy with e | e
        · exact hfr y e
        · rw [List.mem_singleton.mp e]
          exact hx0
    · rintro σ H2 ⟨v8, v9, v10, obs2, as2, rfl, hP2, o2, hS2, O2, hl2, ok2, hfr⟩
      rw [List.length_map, hsl] at hl2
      refine ⟨_, rfl, _, rfl, (by show 2 ≤ sizeLine; decide), fun t ht => ?_⟩
      have apt : Apart p c t := hP2.apart ht
      obtain ⟨tq, tas⟩ := O2.out ht
      have ht0 := o2.free hP hP2 ht
      exact k t sa q sl obs2 as2 _ ht0 upd_same hs (Eq.trans (upd_ne (ne_of_none hS2 ht)) hS2) hq0 (O2.upd tq tas) hfr hpm2 hl2 ok2 (hP2.upd apt) (off_upd ht0 o2)
end
end K5
end partK5I
section partK5J
set_option Elab.async false
set_option linter.all false
set_option maxRecDepth 100000
set_option maxHeartbeats 4000000
set_option pp.maxSteps 1500
/-! The law's change. -/
namespace K5
open PySem PySem.Spec PyProof.Rows L2
section
variable {P : Program} {w : World} {K : PySem.W.Frag} {mg : Str → Option Value} {base : Heap} {f : Addr} {fd : FuncData}
theorem ObjsAt.setD {H : Hp} {a x : Addr} {fs : List Str} {obs : List (List ON)} {as : List Addr} {n : Nat} {ob : List ON} (O : ObjsAt H a fs obs as) (hx : as[n]? = some x) (xa : x ≠ a) : ObjsAt (L2.upd H x (.dK (ent fs ob))) a fs (obs.set n ob) as := by
  refine ⟨by rw [upd_ne xa.symm]; exact O.lst, by rw [List.length_set]; exact O.len, O.nd, fun i y o e1 e2 => ?_⟩
  by_cases hi : i = n
  · subst hi
    rw [hx] at e1
    have e1 := Option.some.inj e1
    subst e1
    have hl : i < obs.length := by rw [← O.len]; exact (List.getElem?_eq_some_iff.mp hx).1
    rw [List.getElem?_set_self hl] at e2
    have e2 := Option.some.inj e2
    subst e2
    exact upd_same
  · rw [List.getElem?_set_ne (Ne.symm hi)] at e2
    have ne : y ≠ x := fun z => hi (nd_ix O.nd e1 (by rw [z]; exact hx))
    rw [upd_ne ne]
    exact O.at_ i y o e1 e2
theorem ObsOk.set {fs : List Str} {n i : Nat} {obs : List (List ON)} {ob : List ON} (h : ObsOk fs n obs) (h1 : ob.length = fs.length) (h2 : Bnd n ob) : ObsOk fs n (obs.set i ob) := by
  intro o ho
  rcases List.mem_or_eq_of_mem_set ho with z | z
  · exact h o z
  · rw [z]; exact ⟨h1, h2⟩
/-- all but the pool, d and the dicts as is as it was -/
def OffC (p c d : Addr) (as : List Addr) (H H' : Hp) : Prop := ∀ b o, b ≠ p → b ≠ c → b ≠ d → b ∉ as → H b = some o → H' b = some o
theorem Off.offC {p c d : Addr} {as : List Addr} {H H' : Hp} (h : Off p c H H') : OffC p c d as H H' := fun b o h1 h2 _ _ e => h b o h1 h2 e
theorem OffC.trans {p c d : Addr} {as : List Addr} {H H1 H2 : Hp} (a : OffC p c d as H H1) (b : OffC p c d as H1 H2) : OffC p c d as H H2 := fun x o h1 h2 h3 h4 h => b x o h1 h2 h3 h4 (a x o h1 h2 h3 h4 h)
/-- the second heap's parts: the list q of dicts, the dict d of names; what they hold -/
structure Parts (H : Hp) (p c q d : Addr) (fs : List Str) (as : List Addr) (obs : List (List ON)) (ns0 ns : List Str) (us : List ON) (n : Nat) : Prop where
  P : Pool H p c
  O : ObjsAt H q fs obs as
  len : obs.length = n
  ok : ObsOk fs n obs
  dd : H d = some (.dK (ent ns us))
  sub : ns.Sublist ns0
  ul : us.length = ns.length
  ub : Bnd n us
theorem Parts.off {H H' : Hp} {p c q d : Addr} {fs : List Str} {as : List Addr} {obs : List (List ON)} {ns0 ns : List Str} {us : List ON} {n : Nat} (h : Parts H p c q d fs as obs ns0 ns us n) (o : Off p c H H') (P' : Pool H' p c) (apq : Apart p c q) (apd : Apart p c d) : Parts H' p c q d fs as obs ns0 ns us n :=
  ⟨P', h.O.off o h.P apq, h.len, h.ok, o.at_ apd h.dd, h.sub, h.ul, h.ub⟩
def spChange : Sp := fun vs H Q _ => ∃ (p c a q d : Addr) (ch : Int) (fs : List Str) (as : List Addr) (obs : List (List ON)) (ns : List Str) (us : List ON) (n : Nat), vs = [.ref p, .int ch, .ref a, .ref q, .ref d] ∧ Parts H p c q d fs as obs ns ns us n ∧ Apart p c a ∧ Apart p c q ∧ Apart p c d ∧ d ∉ as ∧ a ∉ as ∧ H a = some (.lst (fs.map .str)) ∧ fs ≠ [] ∧ fs.length ≤ 2 ∧ n ≤ 100 ∧ ns.length ≤ 6 ∧
  ∀ (obs' : List (List ON)) (ns' : List Str) (us' : List ON) (H' : Hp), Parts H' p c q d fs as obs' ns ns' us' n → OffC p c d as H H' → Q .non H'
abbrev NChange : List Str := ["_law_pool", "_law_change_here", "_law_fields", "_law_second_here", "_law_others", "_law_total", "_law_item", "_law_name", "_law_word_here"]
theorem scChange : FnScope NChange ["_law_pool", "_law_change_here", "_law_fields", "_law_second_here", "_law_others"] (defScope sChange) := ⟨rfl, rfl, rfl, by decide +kernel, rfl, by decide +kernel, by decide +kernel⟩
theorem upd_frz2' {H : Hp} {d D : Addr} {o u x : HO} (h : H d = some u) (ne : D ≠ d) : upd (upd (upd H d o) D x) d u = upd H D x := by
  funext b
  by_cases e1 : b = d
  · rw [e1, upd_same, upd_ne ne.symm, h]
  · rw [upd_ne e1]
    by_cases e2 : b = D
    · rw [e2, upd_same, upd_same]
    · rw [upd_ne e2, upd_ne e2, upd_ne e1]
theorem ent_at' : ∀ {ks : List Str} {vs : List ON} {i : Nat} {k : Key} {v : V}, (ent ks vs)[i]? = some (k, v) → ∃ g, ks[i]? = some g ∧ k = Sum.inr g
  | [], _, _, _, _, h => by cases h
  | _ :: _, [], _, _, _, h => by cases h
  | g :: ks, x :: vs, 0, k, v, h => by
    have h1 : ((Sum.inr g : Key), optV x) = (k, v) := Option.some.inj h
    exact ⟨g, rfl, (congrArg Prod.fst h1).symm⟩
  | g :: ks, x :: vs, i + 1, k, v, h => ent_at' (ks := ks) (vs := vs) (i := i) h
theorem ok_change {f1 f2 f3 : Addr} {fd1 fd2 fd3 : FuncData} (F : FnP K "_law_change" "_law_change" sChange f fd) (B : Blt mg) (C : Cal P w K mg base "_law_draw" 1 ["_law_pool", "_law_limit"] spDraw f1 fd1) (C2 : Cal P w K mg base "_law_pick" 2 ["_law_pool", "_law_row"] spPick f2 fd2)
    (C3 : Cal P w K mg base "_law_value" 2 ["_law_pool", "_law_count"] spValue f3 fd3) : FnOk P w K mg base CX0 3 f fd ["_law_pool", "_law_change_here", "_law_fields", "_law_second_here", "_law_others"] spChange := by
  refine F.ok scChange (fun vs H Q E h => ?_) (fun cdv A outer s H vs Q E hr h => ?_)
  · obtain ⟨p, c, a, q, d, ch, fs, as, obs, ns, us, n, rfl, _⟩ := h
    rfl
  · obtain ⟨p, c, a, q, d, ch, fs, as, obs, ns, us, n, rfl, PT, apa, apq, apd, hda, haa, ha, hf0, hf2, h100, h6, k⟩ := h
    have nd := scChange.nd
    have hu := hu_of hr
    have hr1 : Room 1 _ := hr.mono (by decide)
    refine ⟨_, PSs.nox (pss_cons (ps_set (i := 5) nd rfl (Or.inl rfl) (pe_callB call_len_seq (by rfl) B.len PySem.boot_len (pa_cons (pv 3) pa_nil)))
      (C8.pss_cut (ps_if (PW.pt (pw_and (pt_cmpR op_eq (pv 1) pe_int (nomark _)) (pw_and1 (pt_cmpR op_gt (pv 5) pe_int (nomark _)))))
        (pss_cons (ps_set (i := 6) nd rfl (Or.inl rfl) (pe_ix ix_list (pv 3) (pe_cal C hr1 (pa_cons (pv 0) (pa_cons (pv 5) pa_nil))) (fun _ _ => rfl)))
        (pss_one (ps_dput hu (pv 6) (pe_cal C2 hr (pa_cons (pv 0) (pa_cons (pv 2) pa_nil))) (pe_cal C3 hr (pa_cons (pv 0) (pa_cons (pv 5) pa_nil))) rfl))) pss_nil)
      (C8.pss_cut (ps_if (PW.pt (pw_and (pt_cmpR op_eq (pv 1) pe_int (nomark _)) (pw_and1 (pt_cmpR op_gt (pe_callB call_lenD (by rfl) B.len PySem.boot_len (pa_cons (pv 4) pa_nil)) pe_int (nomark _)))))
        (pss_cons (ps_set (i := 7) nd rfl (Or.inl rfl) (pe_cal C2 hr (pa_cons (pv 0) (pa_cons (pe_lock (pe_lc (own := [("_law_word_here", 8)]) (g := gName 8) (tt := tYes) rfl nd (pi_keys (pv 4)) (blkOk_by (N := NChange) (sc := defScope sChange) (by decide +kernel))
          (fun _ _ _ _ _ => pg_name (i := 8) nd rfl (Or.inl rfl)) (fun _ _ _ _ _ => pts_nil) (fun _ _ _ _ _ => pv 8))) pa_nil))))
        (pss_one (ps_dput hu (pv 4) (pv 7) (pe_cal C3 hr (pa_cons (pv 0) (pa_cons (pv 5) pa_nil))) rfl))) pss_nil)
      (pss_one (ps_if (PW.pt (pw_and (pt_cmpR op_eq (pv 1) pe_int (nomark _)) (pw_and1 (pt_cmpR op_gt (pe_callB call_lenD (by rfl) B.len PySem.boot_len (pa_cons (pv 4) pa_nil)) pe_int (nomark _)))))
        (pss_one (ps_expr (pe_dpop1 (pv 4) (pe_cal C2 hr (pa_cons (pv 0) (pa_cons (pe_lock (pe_lc (own := [("_law_word_here", 8)]) (g := gName 8) (tt := tYes) rfl nd (pi_keys (pv 4)) (blkOk_by (N := NChange) (sc := defScope sChange) (by decide +kernel))
          (fun _ _ _ _ _ => pg_name (i := 8) nd rfl (Or.inl rfl)) (fun _ _ _ _ _ => pts_nil) (fun _ _ _ _ _ => pv 8))) pa_nil))) ⟨rfl, rfl, rfl, rfl⟩))) pss_nil))))), ?_⟩
    have M : L2.St → Hp → Prop := fun _ _ => True
    refine ⟨_, rfl, q, _, rfl, .inl (SqL.of PT.O.lst), ?_⟩
    have el : ((as.map V.ref).length : Int) = (n : Int) := by rw [List.length_map, PT.O.len, PT.len]
    refine ⟨fun σ' H' => ∃ v6 v7 obs' ns' us', σ' = [some (.ref p), some (.int ch), some (.ref a), some (.ref q), some (.ref d), some (.int (n : Int)), v6, v7, none] ∧ Parts H' p c q d fs as obs' ns ns' us' n ∧ OffC p c d as H H', ?_, ?_⟩
    · refine ⟨_, rfl, rfl, _, rfl, ?_⟩
      refine ite2 (fun _ => ?_) (fun _ => ?_)
      rotate_left
      · exact ⟨none, none, obs, ns, us, congrArg (fun z => [some (V.ref p), some (.int ch), some (.ref a), some (.ref q), some (.ref d), some (V.int z), none, none, none]) el, PT, fun _ _ _ _ _ _ e => e⟩
      refine ⟨_, rfl, _, _, rfl, rfl, _, rfl, ?_⟩
      refine ite2 (fun hn => ?_) (fun _ => ?_)
      rotate_left
      · exact ⟨none, none, obs, ns, us, congrArg (fun z => [some (V.ref p), some (.int ch), some (.ref a), some (.ref q), some (.ref d), some (V.int z), none, none, none]) el, PT, fun _ _ _ _ _ _ e => e⟩
      have hn0 : 0 < n := by
        have h9 : (0 : Int) < ((as.map V.ref).length : Int) := of_decide_eq_true hn
        omega
      have hnl : as.length = n := by rw [PT.O.len, PT.len]
      refine ⟨_, rfl, _, rfl, _, rfl, p, c, n, congrArg (fun z => [V.ref p, V.int z]) el, PT.P, hn0, by omega, fun i H1 hi hP1 o1 => ?_⟩
      have PT1 := PT.off o1 hP1 apq apd
      have hi2 : i < as.length := by omega
      have hx := List.getElem?_eq_getElem hi2
      generalize as[i] = x at hx
      refine ⟨q, _, _, .ref x, rfl, rfl, SqL.of PT1.O.lst, at_of (j := i) rfl (by rw [List.getElem?_map, hx]; rfl), ?_⟩
      refine ⟨_, rfl, _, rfl, p, c, n, congrArg (fun z => [V.ref p, V.int z]) el, hP1, h100, fun v H2 hv hP2 o2 => ?_⟩
      have PT2 := PT1.off o2 hP2 apq apd
      have hfl : 0 < fs.length := List.length_pos_iff.mpr hf0
      refine ⟨_, rfl, _, rfl, _, rfl, p, c, a, fs.map .str, rfl, hP2, apa, (o1.trans o2).at_ apa ha, by rw [List.length_map]; exact hfl, by rw [List.length_map]; omega, fun y H3 hy hP3 o3 => ?_⟩
      have PT3 := PT2.off o3 hP3 apq apd
      obtain ⟨g, hg, rfl⟩ := List.mem_map.mp hy
      have hil : i < obs.length := by rw [PT.len]; exact hi
      have hob := List.getElem?_eq_getElem hil
      generalize obs[i] = ob at hob
      have hx3 := PT3.O.at_ i x ob hx hob
      obtain ⟨okl, okb⟩ := PT.ok ob (List.mem_of_getElem? hob)
      obtain ⟨vs', e1, l1, m1⟩ := ent_put_old (v := v) okl hg
      refine ⟨x, _, rfl, DPut.k (k := Sum.inr g) hx3 (small1000 (by rw [ent_len okl]; omega)), ?_⟩
      rw [e1]
      have apx := hP3.apartD hx3
      have xq : x ≠ q := ne_of hx3 PT3.O.lst (fun z => by cases z)
      have hxm := List.mem_of_getElem? hx
      have xd : x ≠ d := fun z => hda (by rw [← z]; exact hxm)
      have b1 : Bnd n vs' := fun m hm => by
        rcases m1 _ hm with z | z
        · exact okb m z
        · exact hv m z.symm
      refine ⟨some (.ref x), none, obs.set i vs', ns, us, congrArg (fun z => [some (V.ref p), some (.int ch), some (.ref a), some (.ref q), some (.ref d), some (V.int z), some (.ref x), none, none]) el,
        ⟨hP3.upd apx, PT3.O.setD hx xq, by rw [List.length_set]; exact PT.len, PT.ok.set l1 b1, by rw [upd_ne xd.symm]; exact PT3.dd, PT.sub, PT.ul, PT.ub⟩, fun b o h1 h2 h3 h4 e => ?_⟩
      have bx : b ≠ x := fun z => h4 (by rw [z]; exact hxm)
      rw [upd_ne bx]
      exact ((o1.trans o2).trans o3) b o h1 h2 e
    · rintro σ' H' ⟨v6, v7, obs', ns', us', rfl, PT', oC⟩
      -- the comprehension over the names, then a pick
      refine ⟨fun σ' H' => ∃ v6 v7 obs' ns' us', σ' = [some (.ref p), some (.int ch), some (.ref a), some (.ref q), some (.ref d), some (.int (n : Int)), v6, v7, none] ∧ Parts H' p c q d fs as obs' ns ns' us' n ∧ OffC p c d as H H', ?_, ?_⟩
      · have hl6 : ns'.length ≤ 6 := Nat.le_trans PT'.sub.length_le h6
        refine ⟨_, rfl, rfl, _, rfl, ?_⟩
        refine ite2 (fun _ => ?_) (fun _ => ?_)
        rotate_left
        · exact ⟨v6, v7, obs', ns', us', rfl, PT', oC⟩
        refine ⟨_, rfl, d, _, rfl, PT'.dd, _, _, rfl, rfl, _, rfl, ?_⟩
        refine ite2 (fun hn => ?_) (fun _ => ?_)
        rotate_left
        · exact ⟨v6, v7, obs', ns', us', rfl, PT', oC⟩
        have hn0 : 0 < ns'.length := by
          have h9 : (0 : Int) < ((ent ns' us').length : Int) := of_decide_eq_true hn
          rw [ent_len PT'.ul] at h9
          omega
        refine ⟨_, rfl, d, _, PT'.dd, trivial, fun od => ?_⟩
        refine ⟨_, rfl, d, od, rfl, .inl ⟨_, upd_same, fun D hD => ?_⟩⟩
        have Dd : D ≠ d := fun z => by rw [z, upd_same] at hD; cases hD
        rw [upd_ne Dd] at hD
        refine lc_keys (d := d) (o := od) (kvs := ent ns' us') (fun i H2 => H2 = upd (upd H' d (.frz od (.dK (ent ns' us')))) D (.lst ((ns'.take i).map V.str))) rfl (fun i H' _ e => by rw [e, upd_ne Dd.symm, upd_same]) ?_ ?_
        · rintro i kk v H2 hk rfl
          obtain ⟨g, hg, rfl⟩ := ent_at' hk
          refine ⟨rfl, ?_⟩
          refine ⟨_, rfl, _, upd_same, small1000 (by rw [List.length_map, List.length_take]; omega), ?_⟩
          rw [upd_upd, take_succ' hg, List.map_append]
          rfl
        rintro H2 rfl
        rw [ent_len PT'.ul, List.take_length]
        refine ⟨by rw [upd_ne Dd.symm, upd_same], ?_⟩
        rw [upd_frz2' PT'.dd Dd]
        have apD := PT'.P.apart hD
        obtain ⟨Dq, Das⟩ := PT'.O.out hD
        have PT2 : Parts (upd H' D (.lst (ns'.map V.str))) p c q d fs as obs' ns ns' us' n := ⟨PT'.P.upd apD, PT'.O.upd Dq Das, PT'.len, PT'.ok, by rw [upd_ne Dd.symm]; exact PT'.dd, PT'.sub, PT'.ul, PT'.ub⟩
        have oC2 : OffC p c d as H (upd H' D (.lst (ns'.map V.str))) := fun b o h1 h2 h3 h4 e => by
          have e2 := oC b o h1 h2 h3 h4 e
          rw [upd_ne (ne_of_none e2 hD)]
          exact e2
        refine ⟨p, c, D, ns'.map .str, rfl, PT2.P, apD, upd_same, by rw [List.length_map]; exact hn0, by rw [List.length_map]; omega, fun y H3 hy hP3 o3 => ?_⟩
        obtain ⟨g, hg, rfl⟩ := List.mem_map.mp hy
        have PT3 := PT2.off o3 hP3 apq apd
        refine ⟨_, rfl, _, rfl, p, c, n, rfl, hP3, h100, fun v H4 hv hP4 o4 => ?_⟩
        have PT4 := PT3.off o4 hP4 apq apd
        obtain ⟨vs', e1, l1, m1⟩ := ent_put_old (v := v) PT'.ul hg
        refine ⟨_, rfl, _, rfl, d, _, rfl, DPut.k (k := Sum.inr g) PT4.dd (small1000 (by rw [ent_len PT'.ul]; omega)), ?_⟩
        rw [e1]
        have dq : d ≠ q := ne_of PT4.dd PT4.O.lst (fun z => by cases z)
        refine ⟨v6, _, obs', ns', vs', rfl, ⟨hP4.upd apd, PT4.O.upd dq hda, PT'.len, PT'.ok, upd_same, PT'.sub, l1, fun m hm => ?_⟩, fun b o h1 h2 h3 h4 e => ?_⟩
        · rcases m1 _ hm with z | z
          · exact PT'.ub m z
          · exact hv m z.symm
        · rw [upd_ne h3]
          exact (o3.trans o4) b o h1 h2 (oC2 b o h1 h2 h3 h4 e)
      · rintro σ' H1 ⟨v6, v7, obs', ns', us', rfl, PT', oC⟩
        have hl6 : ns'.length ≤ 6 := Nat.le_trans PT'.sub.length_le h6
        refine ⟨_, rfl, rfl, _, rfl, ?_⟩
        refine ite2 (fun _ => ?_) (fun _ => ?_)
        rotate_left
        · exact k obs' ns' us' H1 PT' oC
        refine ⟨_, rfl, d, _, rfl, PT'.dd, _, _, rfl, rfl, _, rfl, ?_⟩
        refine ite2 (fun hn => ?_) (fun _ => ?_)
        rotate_left
        · exact k obs' ns' us' H1 PT' oC
        have hn0 : 0 < ns'.length := by
          have h9 : (0 : Int) < ((ent ns' us').length : Int) := of_decide_eq_true hn
          rw [ent_len PT'.ul] at h9
          omega
        refine ⟨_, rfl, d, rfl, .inl ⟨_, .inl PT'.dd⟩, _, rfl, d, _, PT'.dd, trivial, fun od => ?_⟩
        refine ⟨_, rfl, d, od, rfl, .inl ⟨_, upd_same, fun D hD => ?_⟩⟩
        have Dd : D ≠ d := fun z => by rw [z, upd_same] at hD; cases hD
        rw [upd_ne Dd] at hD
        refine lc_keys (d := d) (o := od) (kvs := ent ns' us') (fun i H2 => H2 = upd (upd H1 d (.frz od (.dK (ent ns' us')))) D (.lst ((ns'.take i).map V.str))) rfl (fun i H' _ e => by rw [e, upd_ne Dd.symm, upd_same]) ?_ ?_
        · rintro i kk v H2 hk rfl
          obtain ⟨g, hg, rfl⟩ := ent_at' hk
          refine ⟨rfl, ?_⟩
          refine ⟨_, rfl, _, upd_same, small1000 (by rw [List.length_map, List.length_take]; omega), ?_⟩
          rw [upd_upd, take_succ' hg, List.map_append]
          rfl
        rintro H2 rfl
        rw [ent_len PT'.ul, List.take_length]
        refine ⟨by rw [upd_ne Dd.symm, upd_same], ?_⟩
        rw [upd_frz2' PT'.dd Dd]
        have apD := PT'.P.apart hD
        obtain ⟨Dq, Das⟩ := PT'.O.out hD
        have PT2 : Parts (upd H1 D (.lst (ns'.map V.str))) p c q d fs as obs' ns ns' us' n := ⟨PT'.P.upd apD, PT'.O.upd Dq Das, PT'.len, PT'.ok, by rw [upd_ne Dd.symm]; exact PT'.dd, PT'.sub, PT'.ul, PT'.ub⟩
        have oC2 : OffC p c d as H (upd H1 D (.lst (ns'.map V.str))) := fun b o h1 h2 h3 h4 e => by
          have e2 := oC b o h1 h2 h3 h4 e
          rw [upd_ne (ne_of_none e2 hD)]
          exact e2
        refine ⟨p, c, D, ns'.map .str, rfl, PT2.P, apD, upd_same, by rw [List.length_map]; exact hn0, by rw [List.length_map]; omega, fun y H3 hy hP3 o3 => ?_⟩
        obtain ⟨g, hg, rfl⟩ := List.mem_map.mp hy
        have PT3 := PT2.off o3 hP3 apq apd
        obtain ⟨ks', vs', e1, l1, sb, m1⟩ := ent_drop g PT'.ul
        refine ⟨_, Sum.inr g, _, PT3.dd, rfl, ent_val PT'.ul hg, ?_⟩
        have dq : d ≠ q := ne_of PT3.dd PT3.O.lst (fun z => by cases z)
        rw [e1]
        refine k obs' ks' vs' _ ⟨hP3.upd apd, PT3.O.upd dq hda, PT'.len, PT'.ok, upd_same, sb.trans PT'.sub, l1, fun m hm => PT'.ub m (m1 _ hm)⟩ fun b o h1 h2 h3 h4 e => ?_
        rw [upd_ne h3]
        exact o3 b o h1 h2 (oC2 b o h1 h2 h3 h4 e)
end
end K5
end partK5J
section partK5K
set_option Elab.async false
set_option linter.all false
set_option maxRecDepth 100000
set_option maxHeartbeats 4000000
set_option pp.maxSteps 1500
/-! The class Heap: reckoned_shape. -/
namespace K5
open PySem PySem.Spec PyProof.Rows L2
/-! ### data stays as the heap grows -/
mutual
theorem Dp.mono {K : PySem.W.Frag} {H H' : Hp} (sL : ∀ a xs, SqL K H a xs → SqL K H' a xs) (sT : ∀ a xs, SqT K H a xs → SqT K H' a xs) : ∀ (d : PyData) (v : V), Dp K H v d → Dp K H' v d
  | .none, _, h => by cases h; exact .non
  | .bool b, _, h => by cases h; exact .bl b
  | .int i, _, h => by cases h; exact .int i
  | .str x, _, h => by cases h; exact .str x
  | .list ds, _, h => by
    cases h with
    | lst hs ha => exact .lst (sL _ _ hs) (DpAll.mono sL sT ds _ ha)
  | .tuple ds, _, h => by
    cases h with
    | tup hs ha => exact .tup (sT _ _ hs) (DpAll.mono sL sT ds _ ha)
  | .dict _, _, h => by cases h
theorem DpAll.mono {K : PySem.W.Frag} {H H' : Hp} (sL : ∀ a xs, SqL K H a xs → SqL K H' a xs) (sT : ∀ a xs, SqT K H a xs → SqT K H' a xs) : ∀ (ds : List PyData) (vs : List V), DpAll K H vs ds → DpAll K H' vs ds
  | [], _, h => by cases h; exact .nil
  | d :: ds, _, h => by
    cases h with
    | cons h1 h2 => exact .cons (Dp.mono sL sT d _ h1) (DpAll.mono sL sT ds _ h2)
end
theorem Dp.same {K : PySem.W.Frag} {H H' : Hp} (s : Same H H') (d : PyData) (v : V) (h : Dp K H v d) : Dp K H' v d := Dp.mono (fun _ _ q => SqL.ext q s) (fun _ _ q => SqT.ext q s) d v h
theorem Dp.ins {K : PySem.W.Frag} {H : Hp} {x C dx : Addr} {fs : List (Str × V)} {o : HO} (hx : H x = some (.ins C dx fs)) (d : PyData) (v : V) (h : Dp K H v d) : Dp K (upd H x o) v d := by
  refine Dp.mono (fun a xs q => ?_) (fun a xs q => ?_) d v h
  · rcases q with (q | ⟨u, q⟩) | q
    · exact .inl (.inl (by rw [upd_ne (ne_of q hx (fun z => by cases z))]; exact q))
    · exact .inl (.inr ⟨u, by rw [upd_ne (ne_of q hx (fun z => by cases z))]; exact q⟩)
    · exact .inr q
  · rcases q with (q | ⟨u, q⟩) | q
    · exact .inl (.inl (by rw [upd_ne (ne_of q hx (fun z => by cases z))]; exact q))
    · exact .inl (.inr ⟨u, by rw [upd_ne (ne_of q hx (fun z => by cases z))]; exact q⟩)
    · exact .inr q
/-! ### tuples in a row -/
structure TupsAt (H : Hp) (ts : List Addr) (cs : List (List V)) : Prop where
  len : ts.length = cs.length
  at_ : ∀ (j : Nat) (t : Addr) (c : List V), ts[j]? = some t → cs[j]? = some c → H t = some (.tup c)
theorem TupsAt.nil {H : Hp} : TupsAt H [] [] := ⟨rfl, fun j t c h => by cases h⟩
theorem TupsAt.same {H H' : Hp} {ts : List Addr} {cs : List (List V)} (s : Same H H') (h : TupsAt H ts cs) : TupsAt H' ts cs := ⟨h.len, fun j t c e1 e2 => s _ _ (h.at_ j t c e1 e2)⟩
theorem TupsAt.upd {H : Hp} {ts : List Addr} {cs : List (List V)} {x : Addr} {o : HO} (h : TupsAt H ts cs) (hx : ∀ c, H x ≠ some (.tup c)) : TupsAt (L2.upd H x o) ts cs := ⟨h.len, fun j t c e1 e2 => by
  have e := h.at_ j t c e1 e2
  have ne : t ≠ x := fun z => hx c (by rw [← z]; exact e)
  rw [upd_ne ne]
  exact e⟩
theorem get_snoc {α : Type} {l : List α} {x y : α} {j : Nat} (h : (l ++ [x])[j]? = some y) : (j < l.length ∧ l[j]? = some y) ∨ (j = l.length ∧ y = x) := by
  by_cases hj : j < l.length
  · rw [List.getElem?_append_left hj] at h
    exact .inl ⟨hj, h⟩
  · rw [List.getElem?_append_right (by omega)] at h
    cases z : j - l.length with
    | zero =>
      rw [z] at h
      exact .inr ⟨by omega, (Option.some.inj h).symm⟩
    | succ n => rw [z] at h; cases h
theorem TupsAt.snoc {H : Hp} {ts : List Addr} {cs : List (List V)} {t : Addr} {c : List V} (h : TupsAt H ts cs) (ht : H t = some (.tup c)) : TupsAt H (ts ++ [t]) (cs ++ [c]) := by
  refine ⟨by rw [List.length_append, List.length_append, h.len]; rfl, fun j t' c' e1 e2 => ?_⟩
  have hl := h.len
  rcases get_snoc e1 with ⟨h1, e1⟩ | ⟨h1, e1⟩ <;> rcases get_snoc e2 with ⟨h2, e2⟩ | ⟨h2, e2⟩
  · exact h.at_ j t' c' e1 e2
  · omega
  · omega
  · rw [e1, e2]; exact ht
theorem dpOpt {K : PySem.W.Frag} {H : Hp} (x : ON) : Dp K H (optV x) (optD x) := by
  cases x with
  | none => exact .non
  | some n => exact .int _
theorem dpOpts {K : PySem.W.Frag} {H : Hp} : ∀ l : List ON, DpAll K H (l.map optV) (l.map optD)
  | [] => .nil
  | x :: l => .cons (dpOpt x) (dpOpts l)
theorem TupsAt.dp {K : PySem.W.Frag} {H : Hp} {α : Type} (g : α → List V) (e : α → PyData) (hg : ∀ (a : α) (t : Addr), H t = some (.tup (g a)) → Dp K H (.ref t) (e a)) : ∀ {xs : List α} {ts : List Addr}, TupsAt H ts (xs.map g) → DpAll K H (ts.map V.ref) (xs.map e)
  | [], [], _ => .nil
  | [], _ :: _, h => by cases h.len
  | _ :: _, [], h => by cases h.len
  | x :: xs, t :: ts, h => .cons (hg x t (h.at_ 0 t _ rfl rfl)) (TupsAt.dp g e hg ⟨by have := h.len; simpa using this, fun j t' c e1 e2 => h.at_ (j + 1) t' c (by simpa using e1) (by simpa using e2)⟩)
/-! ### the class -/
structure ClsT (K : PySem.W.Frag) (mg : Str → Option Value) (C : Addr) : Prop where
  cl : Cls K C
  nF : NoAttr K C "fields"
  nH : NoAttr K C "held"
  nO : NoAttr K C "holders"
  nS : NoAttr K C "shape"
  mgC : mg "Heap" = some (.ref C)
  ha : PySem.W.findIn K (.ref C) "__class__" = some (some (.builtin "object.__class__"))
  hn : PySem.W.specialIn K (.builtin "object.__class__") "__get__" = some (some (.builtin "getset_descriptor.__get__"))
  htk : PySem.W.takesIn K (.builtin "object.__class__") = some true
  hm : PySem.W.mroIn K C (.type "object") = some true
  no : ∀ t, t ∈ ["NoneType", "str", "int", "list", "dict"] → PySem.W.kitOne K (.type t) (.ref C) = some false ∧ PySem.W.notFirst K C (.type t) = true
section
variable {P : Program} {w : World} {K : PySem.W.Frag} {mg : Str → Option Value} {base : Heap} {f : Addr} {fd : FuncData}
/-- the shape as data -/
abbrev shapeD (fs ks : List Str) (obs : List (List ON)) (ns : List Str) (us : List ON) (ord : List Str) (r : List Nat) : PyData := encS fs (ord.map fun g => (g, posN r (look1 ns us g))) (obS (valF ks obs) fs r)
def spShape (K : PySem.W.Frag) (C : Addr) : Sp := fun vs H Q _ => ∃ (x dx t l d : Addr) (hs : List (Str × V)) (ks fs : List Str) (obs : List (List ON)) (as : List Addr) (ns : List Str) (us : List ON), vs = [.ref x] ∧ H x = some (.ins C dx hs) ∧ hs.lookup ("fields" : Str) = some (.ref t) ∧ hs.lookup ("held" : Str) = some (.ref l) ∧
  hs.lookup ("holders" : Str) = some (.ref d) ∧ H t = some (.tup (fs.map .str)) ∧ ObjsAt H l ks obs as ∧ H d = some (.dK (ent ns us)) ∧ us.length = ns.length ∧ ns.length ≤ 6 ∧ fs.length ≤ 2 ∧ ObsOk ks obs.length obs ∧ (∀ g ∈ fs, g ∈ ks) ∧ Bnd obs.length us ∧ obs.length ≤ 200 ∧
  ∀ (sh : Addr) (ord : List Str) (r : List Nat) (H' : Hp), Same H H' → ord.Perm ns → sortedS ord = true → Fin' (valF ks obs) fs (ord.map (look1 ns us)) obs.length r → Dp K H' (.ref sh) (shapeD fs ks obs ns us ord r) → Q (.ref sh) H'
abbrev NShape : List Str := ["self", "ordered", "numbers", "names", "objects", "number", "item", "name", "field"]
theorem scShape : FnScope NShape ["self"] (defScope sShape) := ⟨rfl, rfl, rfl, by decide +kernel, rfl, by decide +kernel, by decide +kernel⟩
theorem upd_selfK {H : Hp} {d : Addr} {o : HO} (h : H d = some o) : upd H d o = H := by
  funext b
  unfold L2.upd
  split
  · rename_i e; rw [e, h]
  · rfl
theorem ok_shape {C f1 f2 : Addr} {fd1 fd2 : FuncData} (F : FnP K "reckoned_shape" "Heap.reckoned_shape" sShape f fd) (B : Blt mg) (T : ClsT K mg C) (C1 : Cal P w K mg base "meeting_numbers" 1 ["objects", "fields", "roots"] (spMeet K) f1 fd1) (C2 : Cal P w K mg base "renumbered" 1 ["value", "numbers"] spRenum f2 fd2) :
    FnOk P w K mg base CX0 2 f fd ["self"] (spShape K C) := by
  refine F.ok scShape (fun vs H Q E h => ?_) (fun cdv A outer s H vs Q E hr h => ?_)
  · obtain ⟨x, dx, t, l, d, hs, ks, fs, obs, as, ns, us, rfl, _⟩ := h
    rfl
  · obtain ⟨x, dx, t, l, d, hs, ks, fs, obs, as, ns, us, rfl, hx, hsF, hsH, hsO, ht, O, hd, hul, h6, hf2, ok, hfk, hub, h200, k⟩ := h
    have nd := scShape.nd
    have hu := hu_of hr
    refine ⟨_, PSs.nox (pss_cons (ps_set (i := 1) nd rfl (Or.inl rfl) (pe_callB cr_sortedS (by rfl) B.sorted (by decide +kernel) (pa_cons (pe_callTy (call_listD rfl) (by rfl) B.list (by decide +kernel) (pa_cons (pe_fld (pv 0) rfl) pa_nil)) pa_nil)))
      (pss_cons (ps_set (i := 2) nd rfl (Or.inr rfl) (pe_cal C1 hr (pa_cons (pe_fld (pv 0) rfl) (pa_cons (pe_fld (pv 0) rfl) (pa_cons (pe_lc (own := [("name", 7)]) (g := gName 7) (tt := tYes) (te := tDGet (tFld K (tVar 0) "holders") (tVar 7)) rfl nd (pi_list (pv 1)) (blkOk_by (N := NShape) (sc := defScope sShape) (by decide +kernel))
          (fun _ _ _ _ _ => pg_name (i := 7) nd rfl (Or.inl rfl)) (fun _ _ _ _ _ => pts_nil) (fun _ _ _ _ _ => by exact pe_dget hu (pe_fld (pv 0) rfl) (pv 7) (fun _ _ => rfl))) pa_nil)))))
      (pss_cons (ps_set (i := 3) nd rfl (Or.inl rfl) (pe_callTy call_tuple_of (by rfl) B.tuple (by decide +kernel) (pa_cons (pe_lc (own := [("name", 7)]) (g := gName 7) (tt := tYes) (te := tTup (tCons (tVar 7) (tCons (tCall spRenum [] E0 (tCons (tDGet (tFld K (tVar 0) "holders") (tVar 7)) (tCons (tVar 2) tNil))) tNil))) rfl nd (pi_list (pv 1)) (blkOk_by (N := NShape) (sc := defScope sShape) (by decide +kernel))
          (fun _ _ _ _ _ => pg_name (i := 7) nd rfl (Or.inl rfl)) (fun _ _ _ _ _ => pts_nil) (fun _ _ _ _ _ => by exact pe_tup (pa_cons (pv 7) (pa_cons (pe_cal C2 hr (pa_cons (pe_dget hu (pe_fld (pv 0) rfl) (pv 7) (fun _ _ => rfl)) (pa_cons (pv 2) pa_nil))) pa_nil)))) pa_nil)))
      (pss_cons (ps_set (i := 4) nd rfl (Or.inl rfl) (pe_lst pa_nil))
      (pss_cons (ps_lock (ps_for PassesOwn.never rfl (pi_keys (pv 2)) (pg_name (i := 5) nd rfl (Or.inl rfl))
        (pss_cons (ps_set (i := 6) nd rfl (Or.inr rfl) (pe_ix ix_list (pe_fld (pv 0) rfl) (pv 5) (fun _ _ => rfl)))
        (pss_one (ps_expr (pe_bm PySem.F.plainAttrs_list PySem.F.slot_list_append PySem.F.type_list_append mt_append (pv 4) (pa_cons (pe_callTy call_tuple_of (by rfl) B.tuple (by decide +kernel) (pa_cons (pe_lc (own := [("field", 8)]) (g := gName 8) (tt := tYes) rfl nd (pi_tup (pe_fld (pv 0) rfl)) (blkOk_by (N := NShape) (sc := defScope sShape) (by decide +kernel))
          (fun _ _ _ _ _ => pg_name (i := 8) nd rfl (Or.inl rfl)) (fun _ _ _ _ _ => pts_nil) (fun _ _ _ _ _ => pe_cal C2 hr (pa_cons (pe_dget hu (pv 6) (pv 8) (fun _ _ => rfl)) (pa_cons (pv 2) pa_nil)))) pa_nil)) pa_nil)))))))
      (pss_one (ps_ret (pe_tup (pa_cons (pe_fld (pv 0) rfl) (pa_cons (pv 3) (pa_cons (pe_callTy call_tuple_of (by rfl) B.tuple (by decide +kernel) (pa_cons (pv 4) pa_nil)) pa_nil))))))))))), ?_⟩
    -- ordered = sorted(list(self.holders))
    refine ⟨_, rfl, x, C, dx, _, _, rfl, hx, T.cl, T.nO, hsO, d, _, rfl, .inl hd, fun L hL => ?_⟩
    rw [kV_keys hul]
    refine ⟨L, ns, rfl, SqL.of upd_same, by omega, fun ord p hp hso hpn => ?_⟩
    have s1 : Same H (upd (upd H L (.lst (ns.map V.str))) p (.lst (ord.map V.str))) := grow' (grow hL) hpn
    have hP : (upd (upd H L (.lst (ns.map V.str))) p (.lst (ord.map V.str))) p = some (.lst (ord.map V.str)) := upd_same
    generalize upd (upd H L (.lst (ns.map V.str))) p (.lst (ord.map V.str)) = H1 at s1 hP
    have hol : ord.length ≤ 6 := by rw [hp.length_eq]; exact h6
    -- numbers = meeting_numbers(self.held, self.fields, [..])
    refine ⟨_, rfl, x, C, dx, _, _, rfl, s1 _ _ hx, T.cl, T.nH, hsH, _, rfl, x, C, dx, _, _, rfl, s1 _ _ hx, T.cl, T.nF, hsF, ?_⟩
    refine ⟨_, rfl, p, rfl, ⟨_, SqL.of hP⟩, fun D hD => lc_list (K := K) (a := p) (xs := ord.map .str) (fun i H' => H' = upd H1 D (.lst ((ord.take i).map fun g => optV (look1 ns us g)))) rfl (fun i H' _ e => by rw [e]; exact SqL.of (Eq.trans (upd_ne (ne_of_none hP hD)) hP)) ?_ ?_⟩
    · rintro i y H' hy rfl
      obtain ⟨g, hg, rfl⟩ := map_get hy
      have hgn : g ∈ ns := hp.mem_iff.mp (List.mem_of_getElem? hg)
      have e := ent_val hul hgn
      refine ⟨rfl, ?_⟩
      refine ⟨_, rfl, x, C, dx, _, _, rfl, Eq.trans (upd_ne (ne_of_none (s1 _ _ hx) hD)) (s1 _ _ hx), T.cl, T.nO, hsO, _, rfl, d, optV (look1 ns us g), rfl, by rw [← e]; exact DGet.k (k := Sum.inr g) (Eq.trans (upd_ne (ne_of_none (s1 _ _ hd) hD)) (s1 _ _ hd)), ?_⟩
      refine ⟨_, upd_same, small1000 (by rw [List.length_map, List.length_take]; omega), ?_⟩
      rw [upd_upd, take_succ' hg, List.map_append]
      rfl
    rintro H' rfl
    rw [List.length_map, List.take_length]
    have s2 : Same H (upd H1 D (.lst (ord.map fun g => optV (look1 ns us g)))) := grow' s1 hD
    have hDD : (upd H1 D (.lst (ord.map fun g => optV (look1 ns us g)))) D = some (.lst (ord.map fun g => optV (look1 ns us g))) := upd_same
    have hP2 : (upd H1 D (.lst (ord.map fun g => optV (look1 ns us g)))) p = some (.lst (ord.map V.str)) := Eq.trans (upd_ne (ne_of_none hP hD)) hP
    generalize upd H1 D (.lst (ord.map fun g => optV (look1 ns us g))) = H2 at s2 hDD hP2
    have hrt : Bnd obs.length (ord.map (look1 ns us)) := fun n hn => by
      obtain ⟨g, _, e⟩ := List.mem_map.mp hn
      exact look1_bd hub n e
    refine ⟨l, t, D, ks, fs, obs, as, ord.map (look1 ns us), rfl, O.same s2, SqT.of (s2 _ _ ht), by rw [hDD, List.map_map]; rfl, ok, hfk, hrt, h200, fun dn r H3 s3' hdn0 hdn FN => ?_⟩
    have s3 := s2.trans s3'
    have hP3 := s3' _ _ hP2
    -- names = tuple([(name, ..) ..])
    refine ⟨_, rfl, p, rfl, ⟨_, SqL.of hP3⟩, fun D2 hD2 => lc_list (K := K) (a := p) (xs := ord.map .str) (fun i H' => (∀ b o, H3 b = some o → H' b = some o) ∧ ∃ ts, H' D2 = some (.lst (ts.map V.ref)) ∧ TupsAt H' ts ((ord.take i).map fun g => [V.str g, optV (posN r (look1 ns us g))]))
      ⟨fun b o e => by rw [upd_ne (ne_of_none e hD2)]; exact e, [], upd_same, TupsAt.nil⟩ (fun i H' _ ⟨e, _⟩ => SqL.of (e _ _ hP3)) ?_ ?_⟩
    · rintro i y H' hy ⟨s4, ts, hts, TA⟩
      obtain ⟨g, hg, rfl⟩ := map_get hy
      have hgo := List.mem_of_getElem? hg
      have hgn : g ∈ ns := hp.mem_iff.mp hgo
      have e := ent_val hul hgn
      have s5 : Same H H' := s3.trans s4
      refine ⟨rfl, ?_⟩
      refine ⟨_, rfl, _, rfl, x, C, dx, _, _, rfl, s5 _ _ hx, T.cl, T.nO, hsO, _, rfl, d, optV (look1 ns us g), rfl, by rw [← e]; exact DGet.k (k := Sum.inr g) (s5 _ _ hd), ?_⟩
      refine ⟨_, rfl, look1 ns us g, dn, r, rfl, .inl (s4 _ _ hdn), fun n e => FN.rts _ (List.mem_map.mpr ⟨g, hgo, rfl⟩) n e, ?_⟩
      refine ⟨(by show 2 ≤ sizeLine; decide), fun tt htt => ?_⟩
      have tD : D2 ≠ tt := ne_of_none hts htt
      have htsl : ts.length ≤ 6 := by
        rw [TA.len, List.length_map, List.length_take]
        omega
      refine ⟨_, Eq.trans (upd_ne tD) hts, small1000 (by rw [List.length_map]; omega), ?_⟩
      have TA2 : TupsAt (upd H' tt (.tup [V.str g, optV (posN r (look1 ns us g))])) ts ((ord.take i).map fun g => [V.str g, optV (posN r (look1 ns us g))]) := TA.upd fun c z => by rw [htt] at z; cases z
      have TA3 := (TA2.snoc upd_same).upd (x := D2) (o := .lst (ts.map V.ref ++ [V.ref tt])) fun c z => by rw [upd_ne tD, hts] at z; cases z
      refine ⟨fun b o e => ?_, ts ++ [tt], by rw [upd_same, List.map_append]; rfl, ?_⟩
      · rw [upd_ne (ne_of_none e hD2), upd_ne (ne_of_none (s4 _ _ e) htt)]
        exact s4 _ _ e
      · rw [take_succ' hg, List.map_append]
        exact TA3
    rintro H4 ⟨s4, ts, hts, TA⟩
    rw [List.length_map, List.take_length] at TA
    refine ⟨D2, _, rfl, .inl ⟨SqL.of hts, fun nt hnt => ?_⟩⟩
    have s5 : Same H (upd H4 nt (.tup (ts.map V.ref))) := grow' (s3.trans s4) hnt
    have hdn5 : (upd H4 nt (.tup (ts.map V.ref))) dn = some (.dK (numD r)) := Eq.trans (upd_ne (ne_of_none (s4 _ _ hdn) hnt)) (s4 _ _ hdn)
    have hnt5 : (upd H4 nt (.tup (ts.map V.ref))) nt = some (.tup (ts.map V.ref)) := upd_same
    have TA5 : TupsAt (upd H4 nt (.tup (ts.map V.ref))) ts (ord.map fun g => [V.str g, optV (posN r (look1 ns us g))]) := TA.upd fun c z => by rw [hnt] at z; cases z
    generalize upd H4 nt (.tup (ts.map V.ref)) = H5 at s5 hdn5 hnt5 TA5
    -- objects = []
    refine ⟨Nat.zero_le _, fun ol hol0 => ?_⟩
    have s6 := grow' (o := .lst []) s5 hol0
    have odn : dn ≠ ol := ne_of_none hdn5 hol0
    have ont : nt ≠ ol := ne_of_none hnt5 hol0
    have hdn6 : (upd H5 ol (.lst [])) dn = some (.dK (numD r)) := Eq.trans (upd_ne odn) hdn5
    have hrl : r.length ≤ obs.length := nd_len FN.nd FN.bd
    have s56 : ∀ b o, H5 b = some o → b ≠ ol := fun b o e => ne_of_none e hol0
    -- for number in numbers
    refine ⟨dn, _, hdn6, trivial, fun od => ?_⟩
    refine ⟨_, rfl, dn, od, rfl, .inl ⟨_, upd_same, for_keys (d := dn) (o := od) (kvs := numD r) (fun i σ H' => ∃ U ts2 v5 v6, σ = [some (.ref x), some (.ref p), some (.ref dn), some (.ref nt), some (.ref ol), v5, v6, none, none] ∧ H' = upd U dn (.frz od (.dK (numD r))) ∧ Same H5 U ∧
      U ol = some (.lst (ts2.map V.ref)) ∧ TupsAt U ts2 ((r.take i).map fun n => fs.map fun g => optV (posN r (valF ks obs n g))))
      ⟨_, [], none, none, rfl, rfl, grow hol0, upd_same, TupsAt.nil⟩ (fun i σ H' _ ⟨U, _, _, _, _, e, _⟩ => by rw [e, upd_same]) ?_ ?_⟩⟩
    · rintro i kk v σ H' hk ⟨U, ts2, v5, v6, rfl, rfl, sU, hU, TU⟩
      have hi : i < r.length := by rw [← num_len r]; exact (List.getElem?_eq_some_iff.mp hk).1
      have hn := List.getElem?_eq_getElem hi
      generalize r[i] = n at hn
      rw [num_get hn] at hk
      obtain ⟨rfl, rfl⟩ := Prod.mk.inj (Option.some.inj hk)
      have hnr := List.mem_of_getElem? hn
      have hnc := FN.bd n hnr
      obtain ⟨xo, ob, hxo, hob, hHxo⟩ := objs_get O hnc
      obtain ⟨okl, okb⟩ := ok ob (List.mem_of_getElem? hob)
      have sHU : Same H U := s5.trans sU
      have hUdn := sU _ _ hdn5
      have lk : ∀ b o, H b = some o → b ≠ dn → (upd U dn (.frz od (.dK (numD r)))) b = some o := fun b o e ne => by rw [upd_ne ne]; exact sHU _ _ e
      have nx : x ≠ dn := fun z => by rw [← z, sHU _ _ hx] at hUdn; cases hUdn
      have nl : l ≠ dn := fun z => by rw [← z, sHU _ _ O.lst] at hUdn; cases hUdn
      have nt' : t ≠ dn := fun z => by rw [← z, sHU _ _ ht] at hUdn; cases hUdn
      have nxo : xo ≠ dn := by
        intro z
        have h1 := s3' dn
        rw [z] at hHxo
        have h2 := s2 _ _ hHxo
        rw [hdn0] at h2
        cases h2
      have nol : ol ≠ dn := odn.symm
      refine ⟨_, rfl, x, C, dx, _, _, rfl, lk _ _ hx nx, T.cl, T.nH, hsH, _, rfl, l, _, _, .ref xo, rfl, rfl, SqL.of (lk _ _ O.lst nl), at_of (j := n) rfl (by rw [List.getElem?_map, hxo]; rfl), ?_⟩
      refine ⟨_, rfl, .inl ⟨rfl, _, SqL.of (Eq.trans (upd_ne nol) hU)⟩, ?_⟩
      refine ⟨_, rfl, x, C, dx, _, _, rfl, lk _ _ hx nx, T.cl, T.nF, hsF, t, rfl, ⟨_, SqT.of (lk _ _ ht nt')⟩, fun D3 hD3 => ?_⟩
      have hLk : (upd U dn (.frz od (.dK (numD r)))) dn = some (.frz od (.dK (numD r))) := upd_same
      refine lc_tup (K := K) (a := t) (xs := fs.map .str) (fun j H' => H' = upd (upd U dn (.frz od (.dK (numD r)))) D3 (.lst ((fs.take j).map fun g => optV (posN r (valF ks obs n g))))) rfl (fun j H' _ e => by rw [e]; exact SqT.of (Eq.trans (upd_ne (ne_of_none (lk _ _ ht nt') hD3)) (lk _ _ ht nt'))) ?_ ?_
      · rintro j y H' hy rfl
        obtain ⟨g, hg, rfl⟩ := map_get hy
        have hgf := List.mem_of_getElem? hg
        have hgk := hfk g hgf
        have e := ent_val okl hgk
        have ev := valF_at (fs := ks) (f := g) hob
        rw [← ev] at e
        refine ⟨rfl, ?_⟩
        refine ⟨_, rfl, _, rfl, xo, optV (valF ks obs n g), rfl, by rw [← e]; exact DGet.k (k := Sum.inr g) (Eq.trans (upd_ne (ne_of_none (lk _ _ hHxo nxo) hD3)) (lk _ _ hHxo nxo)), ?_⟩
        refine ⟨_, rfl, valF ks obs n g, dn, r, rfl, .inr ⟨od, Eq.trans (upd_ne (ne_of_none hLk hD3)) hLk⟩, fun m e => FN.cl n hnr g hgf m e, ?_⟩
        refine ⟨_, upd_same, small1000 (by rw [List.length_map, List.length_take]; omega), ?_⟩
        rw [upd_upd, take_succ' hg, List.map_append]
        rfl
      rintro H' rfl
      rw [List.length_map, List.take_length]
      refine ⟨D3, _, rfl, .inl ⟨SqL.of upd_same, fun tn htn => ?_⟩⟩
      have tD3 : tn ≠ D3 := fun z => by rw [z, upd_same] at htn; cases htn
      rw [upd_ne tD3] at htn
      have tdn : tn ≠ dn := fun z => by rw [z, upd_same] at htn; cases htn
      rw [upd_ne tdn] at htn
      have Ddn : D3 ≠ dn := fun z => by rw [z, upd_same] at hD3; cases hD3
      rw [upd_ne Ddn] at hD3
      have Dol : D3 ≠ ol := (ne_of_none hU hD3).symm
      have tol : tn ≠ ol := (ne_of_none hU htn).symm
      have htsl : ts2.length ≤ 200 := by
        rw [TU.len, List.length_map, List.length_take]
        omega
      refine ⟨ol, _, _, rfl, rfl, Eq.trans (upd_ne tol.symm) (Eq.trans (upd_ne Dol.symm) (Eq.trans (upd_ne nol) hU)), small1000 (by rw [List.length_map]; omega), ?_⟩
      have hdd : (upd (upd (upd (upd U dn (.frz od (.dK (numD r)))) D3 (.lst (fs.map fun g => optV (posN r (valF ks obs n g))))) tn (.tup (fs.map fun g => optV (posN r (valF ks obs n g))))) ol (.lst (ts2.map V.ref ++ [.ref tn]))) dn = some (.frz od (.dK (numD r))) := by
        rw [upd_ne odn, upd_ne tdn.symm, upd_ne Ddn.symm, upd_same]
      have U1 : Same H5 (upd (upd (upd U D3 (.lst (fs.map fun g => optV (posN r (valF ks obs n g))))) tn (.tup (fs.map fun g => optV (posN r (valF ks obs n g))))) ol (.lst (ts2.map V.ref ++ [.ref tn]))) := fun b o e => by
        rw [upd_ne (s56 b o e), upd_ne (ne_of_none (sU _ _ e) htn), upd_ne (ne_of_none (sU _ _ e) hD3)]
        exact sU _ _ e
      have eU : upd (upd (upd (upd U dn (.frz od (.dK (numD r)))) D3 (.lst (fs.map fun g => optV (posN r (valF ks obs n g))))) tn (.tup (fs.map fun g => optV (posN r (valF ks obs n g))))) ol (.lst (ts2.map V.ref ++ [.ref tn])) =
          upd (upd (upd (upd U D3 (.lst (fs.map fun g => optV (posN r (valF ks obs n g))))) tn (.tup (fs.map fun g => optV (posN r (valF ks obs n g))))) ol (.lst (ts2.map V.ref ++ [.ref tn]))) dn (.frz od (.dK (numD r))) := by
        funext b
        by_cases e1 : b = dn
        · rw [e1, hdd, upd_same]
        · rw [upd_ne e1]
          by_cases e2 : b = ol
          · rw [e2, upd_same, upd_same]
          · rw [upd_ne e2, upd_ne e2]
            by_cases e3 : b = tn
            · rw [e3, upd_same, upd_same]
            · rw [upd_ne e3, upd_ne e3]
              by_cases e4 : b = D3
              · rw [e4, upd_same, upd_same]
              · rw [upd_ne e4, upd_ne e4, upd_ne e1]
      refine ⟨_, ts2 ++ [tn], _, _, rfl, eU, U1, by rw [upd_same, List.map_append]; rfl, ?_⟩
      have TU1 := (TU.upd (x := D3) (o := .lst (fs.map fun g => optV (posN r (valF ks obs n g)))) fun c z => by rw [hD3] at z; cases z).upd (x := tn) (o := .tup (fs.map fun g => optV (posN r (valF ks obs n g)))) fun c z => by rw [upd_ne tD3, htn] at z; cases z
      have TU2 := (TU1.snoc (t := tn) upd_same).upd (x := ol) (o := .lst (ts2.map V.ref ++ [.ref tn])) fun c z => by rw [upd_ne tol.symm, upd_ne Dol.symm, hU] at z; cases z
      rw [take_succ' hn, List.map_append]
      exact TU2
    · rintro σ H' ⟨U, ts2, v5, v6, rfl, rfl, sU, hU, TU⟩
      rw [num_len, List.take_length] at TU
      refine ⟨upd_same, ?_⟩
      rw [upd_upd, upd_selfK (sU _ _ hdn5)]
      have sHU : Same H U := s5.trans sU
      refine ⟨_, rfl, x, C, dx, _, _, rfl, sHU _ _ hx, T.cl, T.nF, hsF, _, rfl, _, rfl, ol, _, rfl, .inl ⟨SqL.of hU, fun ot hot => ?_⟩⟩
      have sU2 : Same U (upd U ot (.tup (ts2.map V.ref))) := grow hot
      refine ⟨(by show 3 ≤ sizeLine; decide), fun sh hsh => ?_⟩
      have sU3 := grow' (o := .tup [.ref t, .ref nt, .ref ot]) sU2 hsh
      refine k sh ord r _ (sHU.trans sU3) hp hso FN ?_
      refine .tup (SqT.of upd_same) (.cons ?_ (.cons ?_ (.cons ?_ .nil)))
      · refine .tup (SqT.of (sU3 _ _ (sHU _ _ ht))) ?_
        have dpS : ∀ xs : List Str, DpAll K (upd (upd U ot (.tup (ts2.map V.ref))) sh (.tup [.ref t, .ref nt, .ref ot])) (xs.map V.str) (xs.map PyData.str) := fun xs => by
          induction xs with
          | nil => exact .nil
          | cons a l ih => exact .cons (.str a) ih
        exact dpS fs
      · refine .tup (SqT.of (sU3 _ _ (sU _ _ hnt5))) ?_
        have := (TA5.same (sU.trans sU3)).dp (K := K) (fun g => [V.str g, optV (posN r (look1 ns us g))]) (fun g => nmD (g, posN r (look1 ns us g))) fun g t ht => .tup (SqT.of ht) (.cons (.str _) (.cons (dpOpt _) .nil))
        rw [List.map_map]
        exact this
      · refine .tup (SqT.of (Eq.trans (upd_ne (fun z => by rw [← z, upd_same] at hsh; cases hsh)) upd_same)) ?_
        have := (TU.same sU3).dp (K := K) (fun n => fs.map fun g => optV (posN r (valF ks obs n g))) (fun n => obD (fs.map fun g => posN r (valF ks obs n g))) fun n t ht => .tup (SqT.of ht) (by
          have e : (fs.map fun g => optV (posN r (valF ks obs n g))) = (fs.map fun g => posN r (valF ks obs n g)).map optV := by rw [List.map_map]; rfl
          rw [e]
          exact dpOpts _)
        unfold obS
        rw [List.map_map]
        exact this
end
end K5
end partK5K
section partK5L
set_option Elab.async false
set_option linter.all false
set_option maxRecDepth 100000
set_option maxHeartbeats 4000000
set_option pp.maxSteps 1500
/-! The class Heap: __init__, __eq__, objects, names. -/
namespace K5
open PySem PySem.Spec PyProof.Rows L2
section
variable {P : Program} {w : World} {K : PySem.W.Frag} {mg : Str → Option Value} {base : Heap} {f : Addr} {fd : FuncData}
/-! ### the attributes -/
theorem nHF : ¬ (("held" : Str) = "fields") := by decide +kernel
theorem nOF : ¬ (("holders" : Str) = "fields") := by decide +kernel
theorem nOH : ¬ (("holders" : Str) = "held") := by decide +kernel
theorem nSF : ¬ (("shape" : Str) = "fields") := by decide +kernel
theorem nSH : ¬ (("shape" : Str) = "held") := by decide +kernel
theorem nSO : ¬ (("shape" : Str) = "holders") := by decide +kernel
def flds1 (t : Addr) : List (Str × V) := putF "fields" (.ref t) []
def flds2 (t l : Addr) : List (Str × V) := putF "held" (.ref l) (flds1 t)
def flds3 (t l d : Addr) : List (Str × V) := putF "holders" (.ref d) (flds2 t l)
def flds (t l d s : Addr) : List (Str × V) := putF "shape" (.ref s) (flds3 t l d)
theorem len1 (t : Addr) : (flds1 t).length ≤ 1 := length_putF ..
theorem len2 (t l : Addr) : (flds2 t l).length ≤ 2 := Nat.le_trans (length_putF ..) (Nat.succ_le_succ (len1 t))
theorem len3 (t l d : Addr) : (flds3 t l d).length ≤ 3 := Nat.le_trans (length_putF ..) (Nat.succ_le_succ (len2 t l))
theorem l3F (t l d : Addr) : (flds3 t l d).lookup ("fields" : Str) = some (.ref t) := by
  unfold flds3 flds2 flds1
  rw [lookup_putF, if_neg (Ne.symm nOF), lookup_putF, if_neg (Ne.symm nHF), lookup_putF, if_pos rfl]
theorem l3H (t l d : Addr) : (flds3 t l d).lookup ("held" : Str) = some (.ref l) := by
  unfold flds3 flds2
  rw [lookup_putF, if_neg (Ne.symm nOH), lookup_putF, if_pos rfl]
theorem l3O (t l d : Addr) : (flds3 t l d).lookup ("holders" : Str) = some (.ref d) := by
  unfold flds3
  rw [lookup_putF, if_pos rfl]
theorem l4H (t l d s : Addr) : (flds t l d s).lookup ("held" : Str) = some (.ref l) := by
  unfold flds
  rw [lookup_putF, if_neg (Ne.symm nSH)]
  exact l3H t l d
theorem l4O (t l d s : Addr) : (flds t l d s).lookup ("holders" : Str) = some (.ref d) := by
  unfold flds
  rw [lookup_putF, if_neg (Ne.symm nSO)]
  exact l3O t l d
theorem l4S (t l d s : Addr) : (flds t l d s).lookup ("shape" : Str) = some (.ref s) := by
  unfold flds
  rw [lookup_putF, if_pos rfl]
theorem l4no (t l d s : Addr) {m : Str} (h1 : ¬ m = "shape") (h2 : ¬ m = "holders") (h3 : ¬ m = "held") (h4 : ¬ m = "fields") : (flds t l d s).lookup m = none := by
  unfold flds flds3 flds2 flds1
  rw [lookup_putF, if_neg h1, lookup_putF, if_neg h2, lookup_putF, if_neg h3, lookup_putF, if_neg h4]
  rfl
theorem l3no (t l d : Addr) {m : Str} (h2 : ¬ m = "holders") (h3 : ¬ m = "held") (h4 : ¬ m = "fields") : (flds3 t l d).lookup m = none := by
  unfold flds3 flds2 flds1
  rw [lookup_putF, if_neg h2, lookup_putF, if_neg h3, lookup_putF, if_neg h4]
  rfl
/-- a Heap stands at x -/
structure HeapAt (K : PySem.W.Frag) (C : Addr) (H : Hp) (x : Addr) (fs ks : List Str) (obs : List (List ON)) (ns : List Str) (us : List ON) (ord : List Str) (r : List Nat) : Prop where
  ex : ∃ (dx t l d s : Addr) (as : List Addr), H x = some (.ins C dx (flds t l d s)) ∧ ObjsAt H l ks obs as ∧ H d = some (.dK (ent ns us)) ∧ Dp K H (.ref s) (shapeD fs ks obs ns us ord r)
  perm : ord.Perm ns
  srt : sortedS ord = true
  fin : Fin' (valF ks obs) fs (ord.map (look1 ns us)) obs.length r
theorem HeapAt.same {C x : Addr} {H H' : Hp} {fs ks : List Str} {obs : List (List ON)} {ns : List Str} {us : List ON} {ord : List Str} {r : List Nat} (s : Same H H') (h : HeapAt K C H x fs ks obs ns us ord r) : HeapAt K C H' x fs ks obs ns us ord r := by
  obtain ⟨dx, t, l, d, sh, as, h1, h2, h3, h4⟩ := h.ex
  exact ⟨⟨dx, t, l, d, sh, as, s _ _ h1, h2.same s, s _ _ h3, Dp.same s _ _ h4⟩, h.perm, h.srt, h.fin⟩
def spInit (K : PySem.W.Frag) (C : Addr) : Sp := fun vs H Q _ => ∃ (x dx a o d : Addr) (fs ks : List Str) (obs : List (List ON)) (as : List Addr) (ns : List Str) (us : List ON), vs = [.ref x, .ref a, .ref o, .ref d] ∧ H x = some (.ins C dx []) ∧ H a = some (.lst (fs.map .str)) ∧ fs.Nodup ∧ (∀ g ∈ fs, Word g) ∧ 1 ≤ fs.length ∧ fs.length ≤ 2 ∧
  ObjsAt H o ks obs as ∧ fs.length = ks.length ∧ (∀ g ∈ fs, g ∈ ks) ∧ ObsOk ks obs.length obs ∧ obs.length ≤ 200 ∧ H d = some (.dK (ent ns us)) ∧ us.length = ns.length ∧ ns.Nodup ∧ (∀ g ∈ ns, Word g) ∧ ns.length ≤ 6 ∧ Bnd obs.length us ∧
  ∀ (ord : List Str) (r : List Nat) (H' : Hp), HeapAt K C H' x fs ks obs ns us ord r → (∀ b u, b ≠ x → H b = some u → H' b = some u) → Q .non H'
abbrev NInit : List Str := ["self", "fields", "objects", "names", "item"]
theorem scInit : FnScope NInit ["self", "fields", "objects", "names"] (defScope sInit) := ⟨rfl, rfl, rfl, by decide +kernel, rfl, by decide +kernel, by decide +kernel⟩
theorem ok_init {C f1 f2 f3 f4 : Addr} {fd1 fd2 fd3 fd4 : FuncData} (F : FnP K "__init__" "Heap.__init__" sInit f fd) (B : Blt mg) (T : ClsT K mg C) (C1 : Cal P w K mg base "is_word_list" 2 ["values", "least", "most"] spWordL f1 fd1)
    (C2 : Cal P w K mg base "check_objects" 4 ["objects", "fields"] spChkO f2 fd2) (C3 : Cal P w K mg base "check_names" 3 ["names", "count"] spChkN f3 fd3)
    (M4 : Meth K C "reckoned_shape" f4) (G4 : FnOk P w K mg base CX0 2 f4 fd4 ["self"] (spShape K C)) (b4 : Binds K fd4 ["self"] []) : FnOk P w K mg base CX0 5 f fd ["self", "fields", "objects", "names"] (spInit K C) := by
  refine F.ok scInit (fun vs H Q E h => ?_) (fun cdv A outer s H vs Q E hr h => ?_)
  · obtain ⟨x, dx, a, o, d, fs, ks, obs, as, ns, us, rfl, _⟩ := h
    rfl
  · obtain ⟨x, dx, a, o, d, fs, ks, obs, as, ns, us, rfl, hx, ha, hfn, hfw, hf1, hf2, O, hfk0, hfk, ok, h200, hd, hul, hnn, hnw, h6, hub, k⟩ := h
    have nd := scInit.nd
    have hr2 : Room 2 _ := hr.mono (by decide)
    have hr3 : Room 3 _ := hr.mono (by decide)
    refine ⟨_, PSs.nox (pss_cons (ps_if (pt_not (pt_val (pe_cal C1 hr2 (pa_cons (pv 1) (pa_cons pe_int (pa_cons pe_int pa_nil)))))) (pss_one ps_never) pss_nil)
      (pss_cons (ps_expr (pe_cal C2 hr (pa_cons (pv 2) (pa_cons (pv 1) pa_nil))))
      (pss_cons (ps_expr (pe_cal C3 hr3 (pa_cons (pv 3) (pa_cons (pe_callB call_len_seq (by rfl) B.len PySem.boot_len (pa_cons (pv 2) pa_nil)) pa_nil))))
      (pss_cons (ps_fld (pv 0) (pe_callTy call_tuple_of (by rfl) B.tuple (by decide +kernel) (pa_cons (pv 1) pa_nil)) rfl)
      (pss_cons (ps_fld (pv 0) (pe_lc (own := [("item", 4)]) (g := gName 4) (tt := tYes) rfl nd (pi_list (pv 2)) (blkOk_by (N := NInit) (sc := defScope sInit) (by decide +kernel))
          (fun _ _ _ _ _ => pg_name (i := 4) nd rfl (Or.inl rfl)) (fun _ _ _ _ _ => pts_nil) (fun _ _ _ _ _ => pe_callTy call_dictD (by rfl) B.dict (by decide +kernel) (pa_cons (pv 4) pa_nil))) rfl)
      (pss_cons (ps_fld (pv 0) (pe_callTy call_dictD (by rfl) B.dict (by decide +kernel) (pa_cons (pv 3) pa_nil)) rfl)
      (pss_one (ps_fld (pv 0) (pe_meth0 (pv 0) T.cl M4 G4 hr2 b4 .nil pass0) rfl)))))))), ?_⟩
    refine ⟨_, rfl, a, fs, 1, 2, rfl, ha, hfn, hfw, by omega, by omega, by omega, fun H1 s1 => ⟨_, rfl, ?_⟩⟩
    refine iteF ?_
    refine ⟨_, rfl, _, rfl, o, a, ks, fs, obs, as, rfl, O.same s1, s1 _ _ ha, ok, hfk0, hfk, h200, fun H2 s2 => ?_⟩
    have s02 := s1.trans s2
    refine ⟨_, rfl, _, rfl, o, _, rfl, .inl (SqL.of (s02 _ _ O.lst)), d, ns, us, obs.length, by rw [List.length_map, O.len]; rfl, s02 _ _ hd, hul, hnn, hnw, h6, hub, fun H3 s3 => ?_⟩
    have s03 := s02.trans s3
    -- self.fields = tuple(fields)
    refine ⟨_, rfl, a, _, rfl, .inl ⟨SqL.of (s03 _ _ ha), fun t ht => ?_⟩⟩
    have s04 := grow' (o := .tup (fs.map V.str)) s03 ht
    have ht4 : (upd H3 t (.tup (fs.map V.str))) t = some (.tup (fs.map V.str)) := upd_same
    have ht0 := s03.free ht
    have xt : t ≠ x := (ne_of_none hx ht0).symm
    refine ⟨_, rfl, x, C, dx, _, rfl, s04 _ _ hx, T.cl, T.nF, (by show 0 < 1000; decide), ?_⟩
    generalize upd H3 t (.tup (fs.map V.str)) = H4 at s04 ht4
    -- all but x is as in H4
    have k5 : ∀ b u, b ≠ x → H4 b = some u → (upd H4 x (.ins C dx (putF "fields" (.ref t) []))) b = some u := fun b u h1 e => by rw [upd_ne h1]; exact e
    have ox : o ≠ x := ne_of O.lst hx (fun z => by cases z)
    have dx' : d ≠ x := ne_of hd hx (fun z => by cases z)
    have asx : ∀ y ∈ as, y ≠ x := fun y hy => by
      obtain ⟨i, hi, e⟩ := List.mem_iff_getElem.mp hy
      have e1 : as[i]? = some y := by rw [List.getElem?_eq_getElem hi, e]
      have e2 : i < obs.length := by rw [← O.len]; exact hi
      exact ne_of (O.at_ i y _ e1 (List.getElem?_eq_getElem e2)) hx (fun z => by cases z)
    have hx5 : (upd H4 x (.ins C dx (putF "fields" (.ref t) []))) x = some (.ins C dx (flds1 t)) := upd_same
    generalize hH5 : upd H4 x (.ins C dx (putF "fields" (.ref t) [])) = H5 at k5 hx5
    have k05 : ∀ b u, b ≠ x → H b = some u → H5 b = some u := fun b u h1 e => k5 b u h1 (s04 b u e)
    have O5 : ObjsAt H5 o ks obs as := ⟨k05 _ _ ox O.lst, O.len, O.nd, fun i y ob e1 e2 => k05 _ _ (asx y (List.mem_of_getElem? e1)) (O.at_ i y ob e1 e2)⟩
    -- self.held = [dict(item) ..]
    refine ⟨_, rfl, o, rfl, ⟨_, SqL.of O5.lst⟩, fun D hD => lc_list (K := K) (a := o) (xs := as.map .ref) (fun i H' => Same H5 H' ∧ ∃ as2, ObjsAt H' D ks (obs.take i) as2) ⟨grow hD, [], ObjsAt.nil upd_same⟩ (fun i H' _ ⟨e, _⟩ => SqL.of (e _ _ O5.lst)) ?_ ?_⟩
    · rintro i y H' hy ⟨s6, as2, O6⟩
      obtain ⟨xi, hxi, rfl⟩ := map_get hy
      have hi : i < obs.length := by rw [← O.len]; exact (List.getElem?_eq_some_iff.mp hxi).1
      have hob := List.getElem?_eq_getElem hi
      generalize obs[i] = ob at hob
      refine ⟨rfl, ?_⟩
      refine ⟨_, rfl, xi, _, rfl, .inl (s6 _ _ (O5.at_ i xi ob hxi hob)), fun y hyn => ?_⟩
      obtain ⟨yD, yas⟩ := O6.out hyn
      have O7 := O6.upd (o := .dK (ent ks ob)) yD yas
      have hal : as2.length ≤ 200 := by
        rw [O6.len, List.length_take]
        omega
      refine ⟨_, O7.lst, small1000 (by rw [List.length_map]; omega), ?_⟩
      refine ⟨fun b u e => ?_, as2 ++ [y], by rw [take_succ' hob]; exact O7.snoc yD yas upd_same⟩
      rw [upd_ne (ne_of_none e hD), upd_ne (ne_of_none (s6 _ _ e) hyn)]
      exact s6 _ _ e
    rintro H6 ⟨s6, as2, O6⟩
    rw [List.length_map, O.len, List.take_length] at O6
    have Dx : D ≠ x := (ne_of_none hx5 hD).symm
    have as2x : ∀ y ∈ as2, y ≠ x := fun y hy => by
      obtain ⟨i, hi, e⟩ := List.mem_iff_getElem.mp hy
      have e1 : as2[i]? = some y := by rw [List.getElem?_eq_getElem hi, e]
      have e2 : i < obs.length := by rw [← O6.len]; exact hi
      exact ne_of (O6.at_ i y _ e1 (List.getElem?_eq_getElem e2)) (s6 _ _ hx5) (fun z => by cases z)
    refine ⟨_, rfl, x, C, dx, _, rfl, s6 _ _ hx5, T.cl, T.nH, Nat.lt_of_le_of_lt (len1 t) (by decide), ?_⟩
    have hx7 : (upd H6 x (.ins C dx (putF "held" (.ref D) (flds1 t)))) x = some (.ins C dx (flds2 t D)) := upd_same
    have O7 : ObjsAt (upd H6 x (.ins C dx (putF "held" (.ref D) (flds1 t)))) D ks obs as2 := O6.upd Dx.symm fun hm => as2x x hm rfl
    have k07 : ∀ b u, b ≠ x → H b = some u → (upd H6 x (.ins C dx (putF "held" (.ref D) (flds1 t)))) b = some u := fun b u h1 e => by
      rw [upd_ne h1]
      exact s6 _ _ (k05 b u h1 e)
    have ht7 : (upd H6 x (.ins C dx (putF "held" (.ref D) (flds1 t)))) t = some (.tup (fs.map V.str)) := by
      rw [upd_ne xt]
      exact s6 _ _ (k5 _ _ xt ht4)
    generalize upd H6 x (.ins C dx (putF "held" (.ref D) (flds1 t))) = H7 at hx7 O7 k07 ht7
    -- self.holders = dict(names)
    refine ⟨_, rfl, d, _, rfl, .inl (k07 _ _ dx' hd), fun e he => ?_⟩
    have s8 : Same H7 (upd H7 e (.dK (ent ns us))) := grow he
    refine ⟨_, rfl, x, C, dx, _, rfl, s8 _ _ hx7, T.cl, T.nO, Nat.lt_of_le_of_lt (len2 t D) (by decide), ?_⟩
    have ex : e ≠ x := (ne_of_none hx7 he).symm
    have hx9 : (upd (upd H7 e (.dK (ent ns us))) x (.ins C dx (putF "holders" (.ref e) (flds2 t D)))) x = some (.ins C dx (flds3 t D e)) := upd_same
    have O9 : ObjsAt (upd (upd H7 e (.dK (ent ns us))) x (.ins C dx (putF "holders" (.ref e) (flds2 t D)))) D ks obs as2 := (O7.same s8).upd Dx.symm fun hm => as2x x hm rfl
    have k09 : ∀ b u, b ≠ x → H b = some u → (upd (upd H7 e (.dK (ent ns us))) x (.ins C dx (putF "holders" (.ref e) (flds2 t D)))) b = some u := fun b u h1 q => by
      rw [upd_ne h1]
      exact s8 _ _ (k07 b u h1 q)
    have ht9 : (upd (upd H7 e (.dK (ent ns us))) x (.ins C dx (putF "holders" (.ref e) (flds2 t D)))) t = some (.tup (fs.map V.str)) := by
      rw [upd_ne xt]
      exact s8 _ _ ht7
    have he9 : (upd (upd H7 e (.dK (ent ns us))) x (.ins C dx (putF "holders" (.ref e) (flds2 t D)))) e = some (.dK (ent ns us)) := by
      rw [upd_ne ex, upd_same]
    generalize upd (upd H7 e (.dK (ent ns us))) x (.ins C dx (putF "holders" (.ref e) (flds2 t D))) = H9 at hx9 O9 k09 ht9 he9
    -- self.shape = self.reckoned_shape()
    refine ⟨_, rfl, x, dx, _, rfl, hx9, l3no _ _ _ (by decide +kernel) (by decide +kernel) (by decide +kernel), x, dx, t, D, e, _, ks, fs, obs, as2, ns, us, rfl, hx9, l3F _ _ _, l3H _ _ _, l3O _ _ _, ht9, O9, he9, hul, h6, hf2, ok, hfk, hub, h200, fun sh ord r H10 s10 hp hso FN hDp => ?_⟩
    refine ⟨_, rfl, x, C, dx, _, rfl, s10 _ _ hx9, T.cl, T.nS, Nat.lt_of_le_of_lt (len3 t D e) (by decide), ?_⟩
    refine k ord r _ ⟨⟨dx, t, D, e, sh, as2, upd_same, (O9.same s10).upd Dx.symm fun hm => as2x x hm rfl, by rw [upd_ne ex]; exact s10 _ _ he9, ?_⟩, hp, hso, FN⟩ fun b u h1 q => ?_
    · exact Dp.ins (s10 _ _ hx9) _ _ hDp
    · rw [upd_ne h1]
      exact s10 _ _ (k09 b u h1 q)
/-! #### __eq__ -/
def spEqH (K : PySem.W.Frag) (C : Addr) : Sp := fun vs H Q _ => ∃ (x dx s : Addr) (hs : List (Str × V)) (y : V) (D : PyData), vs = [.ref x, y] ∧ H x = some (.ins C dx hs) ∧ hs.lookup ("shape" : Str) = some (.ref s) ∧ Dp K H (.ref s) D ∧ SeqAt.shaped D = true ∧
  ((∃ (x2 dx2 s2 : Addr) (hs2 : List (Str × V)) (D2 : PyData), y = .ref x2 ∧ H x2 = some (.ins C dx2 hs2) ∧ hs2.lookup ("shape" : Str) = some (.ref s2) ∧ Dp K H (.ref s2) D2 ∧ SeqAt.shaped D2 = true ∧ Q (.bl (PyData.eqv D D2)) H) ∨
    (∃ t, TyX K H y t ∧ PySem.W.kitOne K t (.ref C) = some false ∧ Q (.bl false) H))
theorem scEq : FnScope ["self", "other"] ["self", "other"] (defScope sEq) := ⟨rfl, rfl, rfl, by decide +kernel, rfl, by decide +kernel, by decide +kernel⟩
theorem kit_self (C : Addr) : PySem.W.kitOne K (.ref C) (.ref C) = some true := by
  unfold PySem.W.kitOne
  rw [if_pos (by simp)]
theorem ok_eq {C : Addr} (F : FnP K "__eq__" "Heap.__eq__" sEq f fd) (B : Blt mg) (T : ClsT K mg C) : FnOk P w K mg base CX0 1 f fd ["self", "other"] (spEqH K C) := by
  refine F.ok scEq (fun vs H Q E h => ?_) (fun cdv A outer s H vs Q E hr h => ?_)
  · obtain ⟨x, dx, s, hs, y, D, rfl, _⟩ := h
    rfl
  · obtain ⟨x, dx, s, hs, y, D, rfl, hx, hsS, hD, hDs, k⟩ := h
    refine ⟨_, PSs.nox (pss_one (ps_ret (pe_and (pe_callB call_isi (by rfl) B.isi (by decide +kernel) (pa_cons (pv 1) (pa_cons (pe_glob (v := .ref C) (by rfl) T.mgC rfl) pa_nil)))
      (pe_one (pe_cmpR (op_eqD hr.units) (pe_fld (pv 0) rfl) (pe_fld (pv 1) rfl) (nomark _)))))), ?_⟩
    rcases k with ⟨x2, dx2, s2, hs2, D2, rfl, hx2, hsS2, hD2, hDs2, k⟩ | ⟨t, ty, ht, k⟩
    · refine ⟨_, rfl, _, _, _, _, true, rfl, .own C, .base (.ins hx2 T.cl T.ha T.hn T.htk T.hm), kit_self C, true, rfl, iteT ?_⟩
      exact ⟨_, rfl, x, C, dx, _, _, rfl, hx, T.cl, T.nS, hsS, _, rfl, x2, C, dx2, _, _, rfl, hx2, T.cl, T.nS, hsS2, D, D2, hD, hD2, hDs, hDs2, k⟩
    · exact ⟨_, rfl, _, _, _, _, false, rfl, .own C, ty, ht, false, rfl, iteF k⟩
/-! #### objects, names -/
def spObjsM (C : Addr) : Sp := fun vs H Q _ => ∃ (x dx t l d s : Addr) (ks : List Str) (obs : List (List ON)) (as : List Addr), vs = [.ref x] ∧ H x = some (.ins C dx (flds t l d s)) ∧ ObjsAt H l ks obs as ∧ obs.length ≤ 200 ∧ ∀ (q : Addr) (as2 : List Addr) (H' : Hp), Same H H' → ObjsAt H' q ks obs as2 → Q (.ref q) H'
abbrev NObjs : List Str := ["self", "item"]
theorem scObjs : FnScope NObjs ["self"] (defScope sObjects) := ⟨rfl, rfl, rfl, by decide +kernel, rfl, by decide +kernel, by decide +kernel⟩
theorem ok_objsM {C : Addr} (F : FnP K "objects" "Heap.objects" sObjects f fd) (B : Blt mg) (T : ClsT K mg C) : FnOk P w K mg base CX0 1 f fd ["self"] (spObjsM C) := by
  refine F.ok scObjs (fun vs H Q E h => ?_) (fun cdv A outer s H vs Q E hr h => ?_)
  · obtain ⟨x, dx, t, l, d, s, ks, obs, as, rfl, _⟩ := h
    rfl
  · obtain ⟨x, dx, t, l, d, s, ks, obs, as, rfl, hx, O, h200, k⟩ := h
    have nd := scObjs.nd
    refine ⟨_, PSs.nox (pss_one (ps_ret (pe_lc (own := [("item", 1)]) (g := gName 1) (tt := tYes) rfl nd (pi_list (pe_fld (pv 0) rfl)) (blkOk_by (N := NObjs) (sc := defScope sObjects) (by decide +kernel))
          (fun _ _ _ _ _ => pg_name (i := 1) nd rfl (Or.inl rfl)) (fun _ _ _ _ _ => pts_nil) (fun _ _ _ _ _ => pe_callTy call_dictD (by rfl) B.dict (by decide +kernel) (pa_cons (pv 1) pa_nil))))), ?_⟩
    refine ⟨_, rfl, x, C, dx, _, _, rfl, hx, T.cl, T.nH, l4H _ _ _ _, l, rfl, ⟨_, SqL.of O.lst⟩, fun D hD => lc_list (K := K) (a := l) (xs := as.map .ref) (fun i H' => Same H H' ∧ ∃ as2, ObjsAt H' D ks (obs.take i) as2) ⟨grow hD, [], ObjsAt.nil upd_same⟩ (fun i H' _ ⟨e, _⟩ => SqL.of (e _ _ O.lst)) ?_ ?_⟩
    · rintro i y H' hy ⟨s6, as2, O6⟩
      obtain ⟨xi, hxi, rfl⟩ := map_get hy
      have hi : i < obs.length := by rw [← O.len]; exact (List.getElem?_eq_some_iff.mp hxi).1
      have hob := List.getElem?_eq_getElem hi
      generalize obs[i] = ob at hob
      refine ⟨rfl, ?_⟩
      refine ⟨_, rfl, xi, _, rfl, .inl (s6 _ _ (O.at_ i xi ob hxi hob)), fun y hyn => ?_⟩
      obtain ⟨yD, yas⟩ := O6.out hyn
      have O7 := O6.upd (o := .dK (ent ks ob)) yD yas
      have hal : as2.length ≤ 200 := by
        rw [O6.len, List.length_take]
        omega
      refine ⟨_, O7.lst, small1000 (by rw [List.length_map]; omega), ?_⟩
      refine ⟨fun b u e => ?_, as2 ++ [y], by rw [take_succ' hob]; exact O7.snoc yD yas upd_same⟩
      rw [upd_ne (ne_of_none e hD), upd_ne (ne_of_none (s6 _ _ e) hyn)]
      exact s6 _ _ e
    rintro H6 ⟨s6, as2, O6⟩
    rw [List.length_map, O.len, List.take_length] at O6
    exact k D as2 H6 s6 O6
def spNamesM (C : Addr) : Sp := fun vs H Q _ => ∃ (x dx t l d s : Addr) (ns : List Str) (us : List ON), vs = [.ref x] ∧ H x = some (.ins C dx (flds t l d s)) ∧ H d = some (.dK (ent ns us)) ∧ ∀ (q : Addr) (H' : Hp), Same H H' → H' q = some (.dK (ent ns us)) → Q (.ref q) H'
theorem scNamesM : FnScope ["self"] ["self"] (defScope sNames) := ⟨rfl, rfl, rfl, by decide +kernel, rfl, by decide +kernel, by decide +kernel⟩
theorem ok_namesM {C : Addr} (F : FnP K "names" "Heap.names" sNames f fd) (B : Blt mg) (T : ClsT K mg C) : FnOk P w K mg base CX0 1 f fd ["self"] (spNamesM C) := by
  refine F.ok scNamesM (fun vs H Q E h => ?_) (fun cdv A outer s H vs Q E hr h => ?_)
  · obtain ⟨x, dx, t, l, d, s, ns, us, rfl, _⟩ := h
    rfl
  · obtain ⟨x, dx, t, l, d, s, ns, us, rfl, hx, hd, k⟩ := h
    refine ⟨_, PSs.nox (pss_one (ps_ret (pe_callTy call_dictD (by rfl) B.dict (by decide +kernel) (pa_cons (pe_fld (pv 0) rfl) pa_nil)))), ?_⟩
    exact ⟨_, rfl, x, C, dx, _, _, rfl, hx, T.cl, T.nO, l4O _ _ _ _, d, _, rfl, .inl hd, fun q hq => k q _ (grow hq) upd_same⟩
end
end K5
end partK5L
section partK5M
set_option Elab.async false
set_option linter.all false
set_option maxRecDepth 100000
set_option maxHeartbeats 4000000
set_option pp.maxSteps 1500
/-! What the shapes tell; equal data. -/
namespace K5
open PySem PySem.Spec PyProof.Rows L2
theorem Iso.perm {φ ν : Type} {val1 val2 : Nat → φ → ON} {fs : List φ} {ns ms : List ν} {v1 v2 : ν → ON} (h : Iso val1 val2 fs ns v1 v2) (hm : ∀ x, x ∈ ms → x ∈ ns) : Iso val1 val2 fs ms v1 v2 := by
  obtain ⟨R, I⟩ := h
  exact ⟨R, I.fn, I.inj, fun n hn => I.nm n (hm n hn), I.cl⟩
theorem eq_due {fs fs2 : List Str} {ob1 ob2 : List (List ON)} {ns1 ns2 ord1 ord2 : List Str} {us1 us2 : List ON} {r1 r2 : List Nat} {b : Bool} (F1 : Fin' (valF fs ob1) fs (ord1.map (look1 ns1 us1)) ob1.length r1) (F2 : Fin' (valF fs ob2) fs2 (ord2.map (look1 ns2 us2)) ob2.length r2)
    (p1 : ord1.Perm ns1) (p2 : ord2.Perm ns2) (s1 : sortedS ord1 = true) (s2 : sortedS ord2 = true) (hb : b = true ↔ fs2 = fs ∧ ns1.Perm ns2 ∧ IsoD fs ob1 ob2 ns1 us1 ns2 us2) :
    PyData.eqv (shapeD fs fs ob1 ns1 us1 ord1 r1) (shapeD fs2 fs ob2 ns2 us2 ord2 r2) = b := by
  rw [encS_eqv, Bool.eq_iff_iff, hb, decide_eq_true_iff]
  constructor
  · rintro ⟨e1, e2, e3⟩
    subst e1
    have eo : ord1 = ord2 := by
      have := congrArg (List.map Prod.fst) e2
      rw [List.map_map, List.map_map] at this
      have h1 : ord1.map (Prod.fst ∘ fun g => (g, posN r1 (look1 ns1 us1 g))) = ord1 := by
        show ord1.map (fun g => g) = ord1
        exact List.map_id' ord1
      have h2 : ord2.map (Prod.fst ∘ fun g => (g, posN r2 (look1 ns2 us2 g))) = ord2 := by
        show ord2.map (fun g => g) = ord2
        exact List.map_id' ord2
      rw [h1, h2] at this
      exact this
    subst eo
    refine ⟨rfl, p1.symm.trans p2, ?_⟩
    have hn : nmS r1 (ord1.map (look1 ns1 us1)) = nmS r2 (ord1.map (look1 ns2 us2)) := by
      have := congrArg (List.map Prod.snd) e2
      rw [List.map_map, List.map_map] at this
      unfold nmS
      rw [List.map_map, List.map_map]
      exact this
    exact (shape_iso F1 F2 hn e3).perm fun x hx => p1.mem_iff.mpr hx
  · rintro ⟨e1, hp, hI⟩
    subst e1
    have eo : ord1 = ord2 := sorted_uniq ((p1.trans hp).trans p2.symm) s1 s2
    subst eo
    obtain ⟨hn, ho⟩ := iso_shape F1 F2 (Iso.perm hI fun x hx => p1.mem_iff.mp hx)
    refine ⟨rfl, ?_, ho⟩
    unfold nmS at hn
    rw [List.map_map, List.map_map] at hn
    exact List.map_congr_left fun g hg => congrArg (fun z => (g, z)) (map_eq_mem hn g hg)
theorem enc_comm {fs fs' : List Str} {nms nms' : List (Str × ON)} {obs obs' : List (List ON)} : PyData.eqv (encS fs nms obs) (encS fs' nms' obs') = PyData.eqv (encS fs' nms' obs') (encS fs nms obs) := by
  rw [encS_eqv, encS_eqv, decide_eq_decide]
  exact ⟨fun ⟨a, b, c⟩ => ⟨a.symm, b.symm, c.symm⟩, fun ⟨a, b, c⟩ => ⟨a.symm, b.symm, c.symm⟩⟩
theorem enc_self {fs : List Str} {nms : List (Str × ON)} {obs : List (List ON)} : PyData.eqv (encS fs nms obs) (encS fs nms obs) = true := by
  rw [encS_eqv]
  exact decide_eq_true ⟨rfl, rfl, rfl⟩
/-! ### equal dicts, equal lists of dicts -/
theorem eqv_dict {K : PySem.W.Frag} {H : Hp} {a b : Addr} {ks : List Str} {vs : List ON} (ha : H a = some (.dK (ent ks vs))) (hb : H b = some (.dK (ent ks vs))) (hn : ks.Nodup) (hl : vs.length = ks.length) : EqR K H (EqV K H 1) (.ref a) (.ref b) := by
  refine .inr ⟨a, b, _, _, rfl, rfl, ha, hb, rfl, fun p hp => ⟨p.2, ?_, .inl ⟨rfl, (ent_flat hp).1⟩⟩⟩
  exact valV_self (by rw [ent_keys hl]; exact nd_inr hn) p hp
theorem paired_at {α β : Type} {R : α → β → Prop} : ∀ {l : List α} {m : List β}, l.length = m.length → (∀ (i : Nat) (a : α) (b : β), l[i]? = some a → m[i]? = some b → R a b) → Paired R l m
  | [], [], _, _ => .nil
  | [], _ :: _, h, _ => by cases h
  | _ :: _, [], h, _ => by cases h
  | a :: l, b :: m, h, f => .cons (f 0 a b rfl rfl) (paired_at (by simpa using h) fun i x y e1 e2 => f (i + 1) x y (by simpa using e1) (by simpa using e2))
theorem eqv_objs {K : PySem.W.Frag} {H : Hp} {a b : Addr} {ks : List Str} {obs : List (List ON)} {as bs : List Addr} (O1 : ObjsAt H a ks obs as) (O2 : ObjsAt H b ks obs bs) (hn : ks.Nodup) (ok : ∀ ob ∈ obs, ob.length = ks.length) : EqR K H (EqV K H 2) (.ref a) (.ref b) := by
  refine .inl ⟨a, b, as.map .ref, bs.map .ref, rfl, rfl, SqL.of O1.lst, SqL.of O2.lst, paired_at (by rw [List.length_map, List.length_map, O1.len, O2.len]) fun i x y e1 e2 => ?_⟩
  obtain ⟨x', h1, rfl⟩ := map_get e1
  obtain ⟨y', h2, rfl⟩ := map_get e2
  have hi : i < obs.length := by rw [← O1.len]; exact (List.getElem?_eq_some_iff.mp h1).1
  have hob := List.getElem?_eq_getElem hi
  exact .inr (.inr (eqv_dict (O1.at_ i x' _ h1 hob) (O2.at_ i y' _ h2 hob) hn (ok _ (List.mem_of_getElem? hob))))
theorem cut_ints (ns : List Int) (lo hi : Option Int) : ∃ ms : List Int, cutV (ns.map V.int) lo hi = ms.map V.int := by
  unfold cutV
  rw [← List.map_drop, ← List.map_take]
  exact ⟨_, rfl⟩
theorem notFirst_self (K : PySem.W.Frag) (C : Addr) : PySem.W.notFirst K C (.ref C) = true := by simp [PySem.W.notFirst]
end K5
end partK5M
section partK5N
set_option Elab.async false
set_option linter.all false
set_option maxRecDepth 100000
set_option maxHeartbeats 4000000
set_option pp.maxSteps 1500
/-! The law. -/
namespace K5
open PySem PySem.Spec PyProof.Rows L2
/-! ### what stands after the change -/
structure Mem (H : Hp) (a o1 q d1 d2 : Addr) (fs : List Str) (ob1 : List (List ON)) (as1 : List Addr) (ob2 : List (List ON)) (as2 : List Addr) (ns1 : List Str) (us1 : List ON) (ns2 : List Str) (us2 : List ON) : Prop where
  a : H a = some (.lst (fs.map .str))
  O1 : ObjsAt H o1 fs ob1 as1
  O2 : ObjsAt H q fs ob2 as2
  d1 : H d1 = some (.dK (ent ns1 us1))
  d2 : H d2 = some (.dK (ent ns2 us2))
structure Dat (d1 d2 : Addr) (fs : List Str) (ob1 : List (List ON)) (as1 : List Addr) (ob2 : List (List ON)) (as2 : List Addr) (ns1 : List Str) (us1 : List ON) (ns2 : List Str) (us2 : List ON) : Prop where
  fn : fs.Nodup
  fw : ∀ g ∈ fs, Word g
  f1 : 1 ≤ fs.length
  f2 : fs.length ≤ 2
  n1 : ns1.Nodup
  w1 : ∀ g ∈ ns1, Word g
  l1 : ns1.length ≤ 6
  u1 : us1.length = ns1.length
  b1 : Bnd ob1.length us1
  n2 : ns2.Nodup
  w2 : ∀ g ∈ ns2, Word g
  l2 : ns2.length ≤ 6
  u2 : us2.length = ns2.length
  b2 : Bnd ob2.length us2
  k1 : ObsOk fs ob1.length ob1
  k2 : ObsOk fs ob2.length ob2
  c1 : ob1.length ≤ 100
  c2 : ob2.length ≤ 100
  dd : d1 ≠ d2
  da1 : d1 ∉ as1
  da2 : d1 ∉ as2
section
variable {a o1 q d1 d2 : Addr} {fs : List Str} {ob1 : List (List ON)} {as1 : List Addr} {ob2 : List (List ON)} {as2 : List Addr} {ns1 : List Str} {us1 : List ON} {ns2 : List Str} {us2 : List ON}
theorem Mem.same {H H' : Hp} (s : Same H H') (m : Mem H a o1 q d1 d2 fs ob1 as1 ob2 as2 ns1 us1 ns2 us2) : Mem H' a o1 q d1 d2 fs ob1 as1 ob2 as2 ns1 us1 ns2 us2 :=
  ⟨s _ _ m.a, m.O1.same s, m.O2.same s, s _ _ m.d1, s _ _ m.d2⟩
end
theorem hu2_of {A : Around} {k : Nat} (hr : Room k A) : A.units + 2 < cLine := Nat.lt_of_le_of_lt (Nat.add_le_add_left (by decide : 2 ≤ 64) _) hr.units
theorem ne_self (v : V) : (!decide (v = v)) = false := by simp
theorem fs2_mem {fs fs2 : List Str} (h : fs2 = fs ∨ fs2 = fs.reverse) : fs2.Perm fs := by
  rcases h with rfl | rfl
  · exact List.Perm.refl _
  · exact List.reverse_perm _
section
variable {P : Program} {w : World} {K : PySem.W.Frag} {mg : Str → Option Value} {base : Heap} {f : Addr} {fd : FuncData}
def spLaw (K : PySem.W.Frag) : Sp := fun vs H Q _ => ∃ (a : Addr) (ns : List Int), vs = [.ref a] ∧ SqL K H a (ns.map V.int) ∧ ns.length ≤ 63 ∧ ∀ H', Q (.bl true) H'
abbrev NLaw : List Str := ["_law_script", "_law_pool", "_law_size", "_law_change_here", "_law_count", "_law_total", "_law_fields", "_law_words_here", "_law_objects_here", "_law_names_here", "_law_built", "_law_second_here", "_law_others", "_law_name", "_law_second_fields", "_law_due", "_law_one", "_law_two", "_law_strange", "_law_item"]
theorem scLaw : FnScope NLaw ["_law_script"] (defScope sLaw) := ⟨rfl, rfl, rfl, by decide +kernel, rfl, by decide +kernel, by decide +kernel⟩
theorem ok_law {C : Addr} {f1 f2 f3 f4 f5 f6 f7 f8 g1 g2 g3 g4 : Addr} {e1 e2 e3 e4 e5 e6 e7 e8 v1 v2 v3 v4 : FuncData} (F : FnP K "law" "law" sLaw f fd) (B : Blt mg) (T : ClsT K mg C)
    (CD : Cal P w K mg base "_law_draw" 1 ["_law_pool", "_law_limit"] spDraw f1 e1) (CW : Cal P w K mg base "_law_words" 3 ["_law_pool", "_law_least", "_law_most"] spWords f2 e2)
    (CO : Cal P w K mg base "_law_objects" 3 ["_law_pool", "_law_fields", "_law_count"] spLObjs f3 e3) (CN : Cal P w K mg base "_law_names" 2 ["_law_pool", "_law_names_here", "_law_count"] spLNames f4 e4)
    (CS : Cal P w K mg base "_law_second" 3 ["_law_pool", "_law_fields", "_law_objects_here", "_law_count", "_law_total"] spSecond f5 e5) (CM : Cal P w K mg base "_law_moved" 1 ["_law_value_here", "_law_slots"] spMoved f6 e6)
    (CC : Cal P w K mg base "_law_change" 3 ["_law_pool", "_law_change_here", "_law_fields", "_law_second_here", "_law_others"] spChange f7 e7) (CA : Cal P w K mg base "_law_alike" 2 ["_law_fields", "_law_one", "_law_two", "_law_names_here", "_law_others"] spAlike f8 e8)
    (MI : Mk K C g1) (GI : FnOk P w K mg base CX0 5 g1 v1 ["self", "fields", "objects", "names"] (spInit K C)) (bI : Binds K v1 ["self", "fields", "objects", "names"] [])
    (ME : Meth K C "__eq__" g2) (GE : FnOk P w K mg base CX0 1 g2 v2 ["self", "other"] (spEqH K C)) (bE : Binds K v2 ["self", "other"] [])
    (MO : Meth K C "objects" g3) (GO : FnOk P w K mg base CX0 1 g3 v3 ["self"] (spObjsM C)) (bO : Binds K v3 ["self"] [])
    (MN : Meth K C "names" g4) (GN : FnOk P w K mg base CX0 1 g4 v4 ["self"] (spNamesM C)) (bN : Binds K v4 ["self"] []) : FnOk P w K mg base CX0 7 f fd ["_law_script"] (spLaw K) := by
  refine F.ok scLaw (fun vs H Q E h => ?_) (fun cdv A outer s H vs Q E hr h => ?_)
  · obtain ⟨a, ns, rfl, _⟩ := h
    rfl
  · obtain ⟨sc, ns, rfl, hsc, hns, k⟩ := h
    have nd := scLaw.nd
    have hu := hu_of hr
    have hu2 := hu2_of hr
    have hr1 : Room 1 _ := hr.mono (by decide)
    have hr2 : Room 2 _ := hr.mono (by decide)
    have hr3 : Room 3 _ := hr.mono (by decide)
    have hr6 : Room 6 _ := hr.mono (by decide)
    refine ⟨_, PSs.nox (pss_cons (ps_set (i := 1) nd rfl (Or.inl rfl) (pe_lst (pa_cons (pe_callTy call_list_of (by rfl) B.list (by decide +kernel) (pa_cons (pe_slice sl_list (pv 0) po_none (po_some pe_int)) pa_nil)) (pa_cons pe_int (pa_cons pe_int pa_nil)))))
      (pss_cons (ps_set (i := 2) nd rfl (Or.inl rfl) pe_int)
      (C8.pss_cut (ps_if (pt_cmpR op_eq (pe_cal CD hr1 (pa_cons (pv 1) (pa_cons pe_int pa_nil))) pe_int (nomark _)) (pss_one (ps_set (i := 2) nd rfl (Or.inl rfl) pe_int)) pss_nil)
      (pss_cons (ps_set (i := 3) nd rfl (Or.inl rfl) (pe_cal CD hr1 (pa_cons (pv 1) (pa_cons pe_int pa_nil))))
      (pss_cons (ps_set (i := 4) nd rfl (Or.inl rfl) (pe_cal CD hr1 (pa_cons (pv 1) (pa_cons (pv 2) pa_nil))))
      (pss_cons (ps_set (i := 5) nd rfl (Or.inl rfl) (pe_op op_add (pv 4) (pe_cal CD hr1 (pa_cons (pv 1) (pa_cons pe_int pa_nil)))))
      (pss_cons (ps_set (i := 6) nd rfl (Or.inl rfl) (pe_cal CW hr3 (pa_cons (pv 1) (pa_cons pe_int (pa_cons pe_int pa_nil)))))
      (pss_cons (ps_set (i := 7) nd rfl (Or.inl rfl) (pe_cal CW hr3 (pa_cons (pv 1) (pa_cons pe_int (pa_cons pe_int pa_nil)))))
      (pss_cons (ps_set (i := 8) nd rfl (Or.inl rfl) (pe_cal CO hr3 (pa_cons (pv 1) (pa_cons (pv 6) (pa_cons (pv 4) pa_nil)))))
      (pss_cons (ps_set (i := 9) nd rfl (Or.inl rfl) (pe_cal CN hr2 (pa_cons (pv 1) (pa_cons (pv 7) (pa_cons (pv 4) pa_nil)))))
      (pss_cons (ps_set (i := 10) nd rfl (Or.inl rfl) (pe_cal CS hr3 (pa_cons (pv 1) (pa_cons (pv 6) (pa_cons (pv 8) (pa_cons (pv 4) (pa_cons (pv 5) pa_nil)))))))
      (pss_cons (ps_set (i := 11) nd rfl (Or.inl rfl) (pe_ix ix_tup (pv 10) pe_int (fun _ _ => rfl)))
      (pss_cons (ps_set (i := 12) nd rfl (Or.inl rfl) pe_dnewK)
      (C8.pss_cut (ps_for PassesOwn.never rfl (pi_list (pe_callBK (cr_sortedSRev (b := true) hu2) (by rfl) B.sorted (by decide +kernel) (pa_cons (pv 7) pa_nil) (pk_cons pe_bl pk_nil))) (pg_name (i := 13) nd rfl (Or.inl rfl))
        (pss_one (ps_dput hu (pv 12) (pv 13) (pe_cal CM hr1 (pa_cons (pe_dget hu (pv 9) (pv 13) (fun _ _ => rfl)) (pa_cons (pe_ix ix_tup (pv 10) pe_int (fun _ _ => rfl)) pa_nil))) rfl)))
      (C8.pss_cut (ps_expr (pe_cal CC hr3 (pa_cons (pv 1) (pa_cons (pv 3) (pa_cons (pv 6) (pa_cons (pv 11) (pa_cons (pv 12) pa_nil)))))))
      (pss_cons (ps_set (i := 14) nd rfl (Or.inl rfl) (pe_callTy call_list_of (by rfl) B.list (by decide +kernel) (pa_cons (pv 6) pa_nil)))
      (C8.pss_cut (ps_if (pt_cmpR op_eq (pv 3) pe_int (nomark _)) (pss_one (ps_expr (pe_bm0 PySem.F.plainAttrs_list PySem.F.slot_list_reverse PySem.F.type_list_reverse mt_reverse (pv 14)))) pss_nil)
      (C8.pss_cut (ps_set (i := 15) nd rfl (Or.inl rfl) (pe_and (pe_cmpR (op_eqD hr.units) (pv 14) (pv 6) (nomark _)) (pe_one (pe_cal CA hr2 (pa_cons (pv 6) (pa_cons (pv 8) (pa_cons (pv 11) (pa_cons (pv 9) (pa_cons (pv 12) pa_nil)))))))))
      (C8.pss_cut (ps_set (i := 16) nd rfl (Or.inl rfl) (pe_make MI GI hr6 (by rfl) T.mgC bI .nil pass0 (pa_cons (pv 6) (pa_cons (pe_lc (own := [("_law_item", 19)]) (g := gName 19) (tt := tYes) rfl nd (pi_list (pv 8)) (blkOk_by (N := NLaw) (sc := defScope sLaw) (by decide +kernel))
          (fun _ _ _ _ _ => pg_name (i := 19) nd rfl (Or.inl rfl)) (fun _ _ _ _ _ => pts_nil) (fun _ _ _ _ _ => pe_callTy call_dictD (by rfl) B.dict (by decide +kernel) (pa_cons (pv 19) pa_nil))) (pa_cons (pe_callTy call_dictD (by rfl) B.dict (by decide +kernel) (pa_cons (pv 9) pa_nil)) pa_nil)))))
      (C8.pss_cut (ps_set (i := 17) nd rfl (Or.inl rfl) (pe_make MI GI hr6 (by rfl) T.mgC bI .nil pass0 (pa_cons (pv 14) (pa_cons (pe_lc (own := [("_law_item", 19)]) (g := gName 19) (tt := tYes) rfl nd (pi_list (pv 11)) (blkOk_by (N := NLaw) (sc := defScope sLaw) (by decide +kernel))
          (fun _ _ _ _ _ => pg_name (i := 19) nd rfl (Or.inl rfl)) (fun _ _ _ _ _ => pts_nil) (fun _ _ _ _ _ => pe_callTy call_dictD (by rfl) B.dict (by decide +kernel) (pa_cons (pv 19) pa_nil))) (pa_cons (pe_callTy call_dictD (by rfl) B.dict (by decide +kernel) (pa_cons (pv 12) pa_nil)) pa_nil)))))
      (pss_cons (ps_if (PW.pt (pw_or (pt_cmpR op_ne (pe_cmpR (op_ownEq GE hr1 ME.at_ ME.fn bE pass0) (pv 16) (pv 17) (nomark _)) (pv 15) (nomark _)) (pw_or (pt_cmpR op_ne (pe_cmpR (op_ownEq GE hr1 ME.at_ ME.fn bE pass0) (pv 17) (pv 16) (nomark _)) (pv 15) (nomark _))
          (pw_or1 (pt_cmpR op_notBl (pe_cmpR (op_ownEq GE hr1 ME.at_ ME.fn bE pass0) (pv 16) (pv 16) (nomark _)) pe_bl (nomark _)))))) (pss_one (ps_ret pe_bl)) pss_nil)
      (pss_cons (ps_for PassesOwn.never rfl (pi_list (pe_lst (pa_cons pe_non (pa_cons pe_str (pa_cons pe_int (pa_cons (pv 8) (pa_cons (pv 9) pa_nil))))))) (pg_name (i := 18) nd rfl (Or.inl rfl))
        (pss_one (ps_if (pt_cmpR op_notBl (pe_cmpR (op_ownEq GE hr1 ME.at_ ME.fn bE pass0) (pv 16) (pv 18) (nomark _)) pe_bl (nomark _)) (pss_one (ps_ret pe_bl)) pss_nil)))
      (pss_one (ps_ret (pe_and (pe_cmpR (op_eqV hr.units) (pe_meth0 (pv 16) T.cl MO GO hr1 bO .nil pass0) (pv 8) (nomark _)) (pe_and (pe_cmpR (op_eqV hr.units) (pe_meth0 (pv 16) T.cl MN GN hr1 bN .nil pass0) (pv 9) (nomark _))
        (pe_and (pe_cmpR (op_eqV hr.units) (pe_meth0 (pv 17) T.cl MO GO hr1 bO .nil pass0) (pv 11) (nomark _)) (pe_one (pe_cmpR (op_eqV hr.units) (pe_meth0 (pv 17) T.cl MN GN hr1 bN .nil pass0) (pv 12) (nomark _)))))))))))))))))))))))))))))), ?_⟩
    -- the pool
    refine ⟨_, rfl, _, rfl, sc, _, rfl, hsc, fun c hc => ⟨c, _, rfl, .inl (SqL.of upd_same), fun c2 hc2 => ?_⟩⟩
    obtain ⟨ms, hms⟩ := cut_ints ns none (some 63)
    refine ⟨(by show 3 ≤ sizeLine; decide), fun p hp => ?_⟩
    have ne2 : c2 ≠ p := ne_of_none upd_same hp
    have hP0 : Pool (upd (upd (upd H c (.lst (cutV (ns.map V.int) none (some 63)))) c2 (.lst (cutV (ns.map V.int) none (some 63)))) p (.lst [.ref c2, .int 0, .int 0])) p c2 := ⟨ms, 0, 0, upd_same, by rw [upd_ne ne2, upd_same, hms]⟩
    generalize upd (upd (upd H c (.lst (cutV (ns.map V.int) none (some 63)))) c2 (.lst (cutV (ns.map V.int) none (some 63)))) p (.lst [.ref c2, .int 0, .int 0]) = H0 at hP0
    clear hp hc2 hc hsc hms
    refine ⟨fun σ' H' => ∃ sz : Nat, σ' = [some (.ref sc), some (.ref p), some (.int (sz : Int)), none, none, none, none, none, none, none, none, none, none, none, none, none, none, none, none, none] ∧ 0 < sz ∧ sz ≤ 61 ∧ Pool H' p c2, ?_, ?_⟩
    · refine ⟨_, rfl, p, c2, 8, rfl, hP0, by decide, by decide, fun n H1 hn hP1 o1 => ⟨rfl, _, rfl, ?_⟩⟩
      refine ite2 (fun _ => ?_) (fun _ => ?_)
      · exact ⟨61, rfl, by decide, by decide, hP1⟩
      · exact ⟨12, rfl, by decide, by decide, hP1⟩
    rintro σ' H1 ⟨sz, rfl, hz0, hz1, hP1⟩
    clear hP0
    -- the draws
    refine ⟨_, rfl, p, c2, 6, rfl, hP1, by decide, by decide, fun ch H2 _ hP2 _ => ?_⟩
    refine ⟨_, rfl, _, rfl, p, c2, sz, rfl, hP2, hz0, by omega, fun cnt H3 hcnt hP3 _ => ?_⟩
    refine ⟨_, rfl, _, rfl, p, c2, 5, rfl, hP3, by decide, by decide, fun n5 H4 hn5 hP4 _ => ⟨_, _, rfl, rfl, ?_⟩⟩
    have hcnt1 : cnt ≤ 61 := by omega
    have ht1 : cnt ≤ cnt + n5 := by omega
    have ht2 : cnt + n5 ≤ 66 := by omega
    clear hn5 hP1 hP2 hP3
    -- the words
    refine ⟨_, rfl, p, c2, 1, 2, rfl, hP4, by decide, by decide, fun a fs H5 ha0 ha hfn hfw hf1 hf2 hP5 _ => ?_⟩
    have apa : Apart p c2 a := hP4.apart ha0
    refine ⟨_, rfl, p, c2, 0, 6, rfl, hP5, by decide, by decide, fun b ws H6 hb0 hb hwn hww _ hw6 hP6 o6 => ?_⟩
    have apb : Apart p c2 b := hP5.apart hb0
    have ha6 := o6.at_ apa ha
    refine ⟨_, rfl, _, rfl, _, rfl, p, c2, a, fs, cnt, rfl, hP6, apa, ha6, hfn, hf2, by omega, fun o1 ob1 as1 H7 ho1 O1 hl1 ok1 _ hP7 o7 => ?_⟩
    have apo : Apart p c2 o1 := hP6.apart ho1
    refine ⟨_, rfl, _, rfl, _, rfl, p, c2, b, ws, cnt, rfl, hP7, apb, o7.at_ apb hb, hwn, hw6, by omega, fun d1 us1 H8 hd10 hd1 hul1 hub1 hP8 o8 => ?_⟩
    have apd1 : Apart p c2 d1 := hP7.apart hd10
    subst hl1
    have O18 := O1.off o8 hP7 apo
    have ha8 := o8.at_ apa (o7.at_ apa ha6)
    have hb8 := o8.at_ apb (o7.at_ apb hb)
    have da1 : d1 ∉ as1 := (O1.out hd10).2
    clear hP5 hP6 hP7 hP4 ha ha6 hb
    refine ⟨_, rfl, _, rfl, _, rfl, _, rfl, _, rfl, p, c2, a, o1, fs, ob1, as1, ob1.length + n5, rfl, hP8, apa, apo, ha8, O18, ok1, hfn, hf2, ht1, by omega, fun t sl q sls ob2 as2 H9 ht0 ht hs0 hs hq0 O2 hfr hpm hl2 ok2 hP9 o9 => ?_⟩
    have apq : Apart p c2 q := hP8.apart hq0
    have O19 := O18.off o9 hP8 apo
    have ha9 := o9.at_ apa ha8
    have hb9 := o9.at_ apb hb8
    have hd19 := o9.at_ apd1 hd1
    have da2 : d1 ∉ as2 := fun z => by have := hfr _ z; rw [hd1] at this; cases this
    have daa : a ∉ as2 := fun z => by have := hfr _ z; rw [ha8] at this; cases this
    have doo : o1 ∉ as2 := fun z => by have := hfr _ z; rw [O18.lst] at this; cases this
    refine ⟨_, rfl, t, _, 1, .ref q, rfl, rfl, SqT.of ht, rfl, ?_⟩
    -- the second heap's names
    intro d2 hd2
    have hd29 : ∀ x o, H9 x = some o → x ≠ d2 := fun x o e => ne_of_none e hd2
    refine ⟨fun σ' H' => ∃ v13 ys us2, σ' = [some (.ref sc), some (.ref p), some (.int (sz : Int)), some (.int (ch : Int)), some (.int (ob1.length : Int)), some (.int ((ob1.length : Int) + (n5 : Int))), some (.ref a), some (.ref b), some (.ref o1), some (.ref d1), some (.ref t), some (.ref q), some (.ref d2), v13, none, none, none, none, none, none] ∧
      Same H9 H' ∧ H' d2 = some (.dK (ent ys us2)) ∧ ys.Perm ws ∧ us2.length = ys.length ∧ Bnd (ob1.length + n5) us2, ?_, ?_⟩
    · refine ⟨_, rfl, b, ws, rfl, rfl, SqL.of (Eq.trans (upd_ne (hd29 _ _ hb9)) hb9), fun ys S hys hS => ?_⟩
      have Sd : S ≠ d2 := fun z => by rw [z, upd_same] at hS; cases hS
      have hS9 : H9 S = Option.none := by rw [upd_ne Sd] at hS; exact hS
      refine ⟨S, rfl, ⟨_, SqL.of upd_same⟩, for_list (K := K) (a := S) (xs := ys.map .str) (fun i σ H' => ∃ v13 us2, σ = [some (.ref sc), some (.ref p), some (.int (sz : Int)), some (.int (ch : Int)), some (.int (ob1.length : Int)), some (.int ((ob1.length : Int) + (n5 : Int))), some (.ref a), some (.ref b), some (.ref o1), some (.ref d1), some (.ref t), some (.ref q), some (.ref d2), v13, none, none, none, none, none, none] ∧
        Same H9 H' ∧ H' S = some (.lst (ys.map .str)) ∧ H' d2 = some (.dK (ent (ys.take i) us2)) ∧ us2.length = i ∧ Bnd (ob1.length + n5) us2) ?_ ?_ ?_ ?_⟩
      · exact ⟨none, [], rfl, grow' (grow hd2) hS, upd_same, by rw [upd_ne Sd.symm, upd_same]; rfl, rfl, bnd_nil⟩
      · exact fun i σ H' _ ⟨_, _, _, _, h, _⟩ => SqL.of h
      · rintro i y σ H' hy ⟨v13, us2, rfl, s9, hS', hd', hl', hb'⟩
        obtain ⟨g, hg, rfl⟩ := map_get hy
        have hgm : g ∈ ws := hys.mem_iff.mp (List.mem_of_getElem? hg)
        have hgn := nd_not_take (hys.nodup_iff.mpr hwn) hg
        have hi : i < ys.length := (List.getElem?_eq_some_iff.mp hg).1
        have hys6 : ys.length ≤ 6 := by rw [hys.length_eq]; exact hw6
        have hlt : us2.length = (ys.take i).length := by rw [List.length_take]; omega
        have e1 := ent_val hul1 hgm
        have hin : ∀ m, look1 ws us1 g = some m → m ∈ sls := fun m e => hpm.mem_iff.mpr (List.mem_range.mpr (by have := hub1 m (look1_mem e); omega))
        refine ⟨_, rfl, _, rfl, d1, optV (look1 ws us1 g), rfl, by rw [← e1]; exact DGet.k (k := Sum.inr g) (s9 _ _ hd19), ?_⟩
        refine ⟨_, rfl, t, _, 0, .ref sl, rfl, rfl, SqT.of (s9 _ _ ht), rfl, ?_⟩
        refine ⟨look1 ws us1 g, sl, sls, rfl, s9 _ _ hs, hpm.nodup_iff.mpr List.nodup_range, hin, ?_⟩
        refine ⟨_, rfl, _, rfl, d2, _, rfl, DPut.k (k := Sum.inr g) hd' (small1000 (by rw [ent_len hlt, List.length_take]; omega)), ?_⟩
        refine ⟨_, us2 ++ [posN sls (look1 ws us1 g)], rfl, fun x o e => ?_, ?_, ?_, by rw [List.length_append, hl']; rfl, hb'.snoc fun m e => ?_⟩
        · rw [upd_ne (hd29 _ _ e)]
          exact s9 _ _ e
        · rw [upd_ne Sd]
          exact hS'
        · rw [upd_same, ent_put_new hlt hgn, take_succ' hg]
        · cases z : look1 ws us1 g with
          | none => rw [z] at e; cases e
          | some m0 =>
            rw [z] at e
            have e9 : sls.idxOf m0 = m := Option.some.inj e
            rw [← e9, ← List.length_range (n := ob1.length + n5), ← hpm.length_eq]
            exact List.idxOf_lt_length_iff.mpr (hin m0 z)
      · rintro σ H' ⟨v13, us2, rfl, s9, hS', hd', hl', hb'⟩
        rw [List.length_map] at hl' hd'
        rw [List.take_length] at hd'
        exact ⟨v13, ys, us2, rfl, s9, hd', hys, hl', hb'⟩
    rintro σ' H10 ⟨v13, ys, us2, rfl, s10, hd2', hys, hl2', hb2'⟩
    have O20 := O2.same s10
    -- the change
    refine ⟨fun σ' H' => ∃ ob2 ns2 us2, σ' = [some (.ref sc), some (.ref p), some (.int (sz : Int)), some (.int (ch : Int)), some (.int (ob1.length : Int)), some (.int ((ob1.length : Int) + (n5 : Int))), some (.ref a), some (.ref b), some (.ref o1), some (.ref d1), some (.ref t), some (.ref q), some (.ref d2), v13, none, none, none, none, none, none] ∧
      Mem H' a o1 q d1 d2 fs ob1 as1 ob2 as2 ws us1 ns2 us2 ∧ Dat d1 d2 fs ob1 as1 ob2 as2 ws us1 ns2 us2, ?_, ?_⟩
    · have d2as : d2 ∉ as2 := (O2.out hd2).2
      have hlw : ys.length ≤ 6 := by rw [hys.length_eq]; exact hw6
      have PT : Parts H10 p c2 q d2 fs as2 ob2 ys ys us2 (ob1.length + n5) := ⟨hP9.same s10, O20, hl2, ok2, hd2', List.Sublist.refl _, hl2', hb2'⟩
      refine ⟨_, rfl, _, rfl, _, rfl, _, rfl, _, rfl, p, c2, a, q, d2, (ch : Int), fs, as2, ob2, ys, us2, ob1.length + n5, rfl, PT, apa, apq, hP9.apart hd2, d2as, daa, s10 _ _ ha9, List.length_pos_iff.mp hf1, hf2, by omega, hlw, fun ob2' ns2' us2' H11 PT' oC => ?_⟩
      have keep : ∀ x o, H8 x = some o → Apart p c2 x → H9 x = some o → H11 x = some o := fun x o e ap e9 => oC x o ap.1 ap.2 (hd29 x o e9) (fun z => by have := hfr x z; rw [e] at this; cases this) (s10 _ _ e9)
      have nd2 : ns2'.Nodup := PT'.sub.nodup (hys.nodup_iff.mpr hwn)
      refine ⟨ob2', ns2', us2', rfl, ⟨keep _ _ ha8 apa ha9, ⟨keep _ _ O18.lst apo O19.lst, O1.len, O1.nd, fun i x ob x1 x2 => keep _ _ (O18.at_ i x ob x1 x2) (hP8.apartD (O18.at_ i x ob x1 x2)) (O19.at_ i x ob x1 x2)⟩, PT'.O, keep _ _ hd1 apd1 hd19, PT'.dd⟩,
        ⟨hfn, hfw, hf1, hf2, hwn, hww, hw6, hul1, hub1, nd2, fun g hg => hww g (hys.mem_iff.mp (PT'.sub.subset hg)), Nat.le_trans PT'.sub.length_le hlw, PT'.ul, by rw [PT'.len]; exact PT'.ub, ok1, by rw [PT'.len]; exact PT'.ok, by omega, by rw [PT'.len]; omega, hd29 _ _ hd19, da1, da2⟩⟩
    clear hys hl2' hb2' hd2' O20 s10 us2 ys hd29 hd2 doo daa da2 hd19 hb9 ha9 O19 o9 hP9 ok2 hl2 hpm hfr O2 hq0 hs hs0 ht ht0 da1 hb8 ha8 O18 hub1 hul1 hd1 hd10 o8 hP8 ok1 O1 ho1 o7 hw6 hww hwn o6 hf2 hf1 hfw hfn
    rintro σ' H1 ⟨ob2, ns2, us2, rfl, M, W⟩
    have hc1 := W.c1
    have hc2 := W.c2
    -- the second fields
    refine ⟨_, rfl, a, _, rfl, .inl (SqL.of M.a), fun sf hsf => ?_⟩
    refine ⟨fun σ' H' => ∃ fs2 : List Str, σ' = [some (.ref sc), some (.ref p), some (.int (sz : Int)), some (.int (ch : Int)), some (.int (ob1.length : Int)), some (.int ((ob1.length : Int) + (n5 : Int))), some (.ref a), some (.ref b), some (.ref o1), some (.ref d1), some (.ref t), some (.ref q), some (.ref d2), v13, some (.ref sf), none, none, none, none, none] ∧ Mem H' a o1 q d1 d2 fs ob1 as1 ob2 as2 ws us1 ns2 us2 ∧ H' sf = some (.lst (fs2.map .str)) ∧ (fs2 = fs ∨ fs2 = fs.reverse), ?_, ?_⟩
    · refine ⟨_, rfl, rfl, _, rfl, ?_⟩
      refine ite2 (fun _ => ?_) (fun _ => ?_)
      · refine ⟨_, rfl, .inl ⟨rfl, _, SqL.of upd_same⟩, sf, _, rfl, rfl, upd_same, ?_⟩
        refine ⟨fs.reverse, rfl, M.same (by rw [upd_upd]; exact grow hsf), by rw [upd_same, List.map_reverse], .inr rfl⟩
      · exact ⟨fs, rfl, M.same (grow hsf), upd_same, .inl rfl⟩
    rintro σ' H2 ⟨fs2, rfl, M2, hsf2, hfs2⟩
    clear M hsf
    have pfs := fs2_mem hfs2
    have fw2 : ∀ g ∈ fs2, Word g := fun g hg => W.fw g (pfs.mem_iff.mp hg)
    -- what is due
    refine ⟨fun σ' H' => ∃ bb : Bool, σ' = [some (.ref sc), some (.ref p), some (.int (sz : Int)), some (.int (ch : Int)), some (.int (ob1.length : Int)), some (.int ((ob1.length : Int) + (n5 : Int))), some (.ref a), some (.ref b), some (.ref o1), some (.ref d1), some (.ref t), some (.ref q), some (.ref d2), v13, some (.ref sf), some (.bl bb), none, none, none, none] ∧ Mem H' a o1 q d1 d2 fs ob1 as1 ob2 as2 ws us1 ns2 us2 ∧ H' sf = some (.lst (fs2.map .str)) ∧ (bb = true ↔ fs2 = fs ∧ ws.Perm ns2 ∧ IsoD fs ob1 ob2 ws us1 ns2 us2), ?_, ?_⟩
    · refine ⟨_, rfl, _, rfl, .list (fs2.map .str), .list (fs.map .str), .lst (SqL.of hsf2) (dpStrs fs2), .lst (SqL.of M2.a) (dpStrs fs), strs_shaped fw2, strs_shaped W.fw, _, rfl, ?_⟩
      refine iteB (fun h => ?_) (fun h => ?_)
      · rw [strs_eqv, decide_eq_true_iff] at h
        refine ⟨_, rfl, _, rfl, _, rfl, _, rfl, _, rfl, a, o1, q, d1, d2, fs, ob1, ob2, as1, as2, ws, ns2, us1, us2, rfl, M2.a, M2.O1, M2.O2, M2.d1, M2.d2, W.u1, W.u2, W.dd, W.da1, W.da2, W.w1, W.w2, W.l1, W.l2, W.k1, W.k2, W.b1, W.b2, by omega, by omega, fun bb H' s' hb => ⟨bb, rfl, M2.same s', s' _ _ hsf2, ?_⟩⟩
        rw [hb]
        exact ⟨fun z => ⟨h, z⟩, fun z => z.2⟩
      · rw [strs_eqv, decide_eq_false_iff_not] at h
        exact ⟨false, rfl, M2, hsf2, fun z => (by cases z), fun z => absurd z.1 h⟩
    rintro σ' H3 ⟨bb, rfl, M3, hsf3, hbb⟩
    clear M2 hsf2
    -- the first heap
    refine ⟨fun σ' H' => ∃ x ord1 r1, σ' = [some (.ref sc), some (.ref p), some (.int (sz : Int)), some (.int (ch : Int)), some (.int (ob1.length : Int)), some (.int ((ob1.length : Int) + (n5 : Int))), some (.ref a), some (.ref b), some (.ref o1), some (.ref d1), some (.ref t), some (.ref q), some (.ref d2), v13, some (.ref sf), some (.bl bb), some (.ref x), none, none, none] ∧ Mem H' a o1 q d1 d2 fs ob1 as1 ob2 as2 ws us1 ns2 us2 ∧ H' sf = some (.lst (fs2.map .str)) ∧ HeapAt K C H' x fs fs ob1 ws us1 ord1 r1, ?_, ?_⟩
    · refine ⟨_, rfl, _, rfl, o1, rfl, ⟨_, SqL.of M3.O1.lst⟩, fun D hD => lc_list (K := K) (a := o1) (xs := as1.map .ref) (fun i H' => Same H3 H' ∧ ∃ asx, ObjsAt H' D fs (ob1.take i) asx) ⟨grow hD, [], ObjsAt.nil upd_same⟩ (fun i H' _ ⟨e, _⟩ => SqL.of (e _ _ M3.O1.lst)) ?_ ?_⟩
      · rintro i y H' hy ⟨s6, asx, O6⟩
        obtain ⟨xi, hxi, rfl⟩ := map_get hy
        have hi : i < ob1.length := by rw [← M3.O1.len]; exact (List.getElem?_eq_some_iff.mp hxi).1
        have hob := List.getElem?_eq_getElem hi
        generalize ob1[i] = ob at hob
        refine ⟨rfl, ?_⟩
        refine ⟨_, rfl, xi, _, rfl, .inl (s6 _ _ (M3.O1.at_ i xi ob hxi hob)), fun y hyn => ?_⟩
        obtain ⟨yD, yas⟩ := O6.out hyn
        have O7 := O6.upd (o := .dK (ent fs ob)) yD yas
        have hal : asx.length ≤ 200 := by
          rw [O6.len, List.length_take]
          omega
        refine ⟨_, O7.lst, small1000 (by rw [List.length_map]; omega), ?_⟩
        refine ⟨fun b u e => ?_, asx ++ [y], by rw [take_succ' hob]; exact O7.snoc yD yas upd_same⟩
        rw [upd_ne (ne_of_none e hD), upd_ne (ne_of_none (s6 _ _ e) hyn)]
        exact s6 _ _ e
      rintro H6 ⟨s6, asx, O6⟩
      rw [List.length_map, M3.O1.len, List.take_length] at O6
      refine ⟨_, rfl, d1, _, rfl, .inl (s6 _ _ M3.d1), fun e he x dx hx hdx hne => ?_⟩
      have s8 : Same H6 (upd (upd (upd H6 e (.dK (ent ws us1))) dx (.own x)) x (.ins C dx [])) := grow' (grow' (grow he) hdx) (by rw [upd_ne hne.symm]; exact hx)
      have he8 : (upd (upd (upd H6 e (.dK (ent ws us1))) dx (.own x)) x (.ins C dx [])) e = some (.dK (ent ws us1)) := by
        rw [upd_ne (ne_of_none upd_same hx), upd_ne (ne_of_none upd_same hdx), upd_same]
      have hx3 : H3 x = Option.none := (s6.trans (grow he)).free hx
      have s38 := s6.trans s8
      refine ⟨x, dx, a, D, e, fs, fs, ob1, asx, ws, us1, rfl, upd_same, s38 _ _ M3.a, W.fn, W.fw, W.f1, W.f2, O6.same s8, rfl, fun g hg => hg, W.k1, by omega, he8, W.u1, W.n1, W.w1, W.l1, W.b1, fun ord r H' hH hk => ⟨rfl, ?_⟩⟩
      have s3 : Same H3 H' := fun b u e => hk b u (ne_of_none e hx3) (s38 b u e)
      exact ⟨x, ord, r, rfl, M3.same s3, s3 _ _ hsf3, hH⟩
    rintro σ' H4 ⟨x, ord1, r1, rfl, M4, hsf4, A1⟩
    clear M3 hsf3
    -- the second heap
    refine ⟨fun σ' H' => ∃ y ord2 r2, σ' = [some (.ref sc), some (.ref p), some (.int (sz : Int)), some (.int (ch : Int)), some (.int (ob1.length : Int)), some (.int ((ob1.length : Int) + (n5 : Int))), some (.ref a), some (.ref b), some (.ref o1), some (.ref d1), some (.ref t), some (.ref q), some (.ref d2), v13, some (.ref sf), some (.bl bb), some (.ref x), some (.ref y), none, none] ∧ Mem H' a o1 q d1 d2 fs ob1 as1 ob2 as2 ws us1 ns2 us2 ∧ HeapAt K C H' x fs fs ob1 ws us1 ord1 r1 ∧ HeapAt K C H' y fs2 fs ob2 ns2 us2 ord2 r2, ?_, ?_⟩
    · refine ⟨_, rfl, _, rfl, q, rfl, ⟨_, SqL.of M4.O2.lst⟩, fun D hD => lc_list (K := K) (a := q) (xs := as2.map .ref) (fun i H' => Same H4 H' ∧ ∃ asx, ObjsAt H' D fs (ob2.take i) asx) ⟨grow hD, [], ObjsAt.nil upd_same⟩ (fun i H' _ ⟨e, _⟩ => SqL.of (e _ _ M4.O2.lst)) ?_ ?_⟩
      · rintro i y H' hy ⟨s6, asx, O6⟩
        obtain ⟨xi, hxi, rfl⟩ := map_get hy
        have hi : i < ob2.length := by rw [← M4.O2.len]; exact (List.getElem?_eq_some_iff.mp hxi).1
        have hob := List.getElem?_eq_getElem hi
        generalize ob2[i] = ob at hob
        refine ⟨rfl, ?_⟩
        refine ⟨_, rfl, xi, _, rfl, .inl (s6 _ _ (M4.O2.at_ i xi ob hxi hob)), fun y hyn => ?_⟩
        obtain ⟨yD, yas⟩ := O6.out hyn
        have O7 := O6.upd (o := .dK (ent fs ob)) yD yas
        have hal : asx.length ≤ 200 := by
          rw [O6.len, List.length_take]
          omega
        refine ⟨_, O7.lst, small1000 (by rw [List.length_map]; omega), ?_⟩
        refine ⟨fun b u e => ?_, asx ++ [y], by rw [take_succ' hob]; exact O7.snoc yD yas upd_same⟩
        rw [upd_ne (ne_of_none e hD), upd_ne (ne_of_none (s6 _ _ e) hyn)]
        exact s6 _ _ e
      rintro H6 ⟨s6, asx, O6⟩
      rw [List.length_map, M4.O2.len, List.take_length] at O6
      refine ⟨_, rfl, d2, _, rfl, .inl (s6 _ _ M4.d2), fun e he y dx hx hdx hne => ?_⟩
      have s8 : Same H6 (upd (upd (upd H6 e (.dK (ent ns2 us2))) dx (.own y)) y (.ins C dx [])) := grow' (grow' (grow he) hdx) (by rw [upd_ne hne.symm]; exact hx)
      have he8 : (upd (upd (upd H6 e (.dK (ent ns2 us2))) dx (.own y)) y (.ins C dx [])) e = some (.dK (ent ns2 us2)) := by
        rw [upd_ne (ne_of_none upd_same hx), upd_ne (ne_of_none upd_same hdx), upd_same]
      have hx3 : H4 y = Option.none := (s6.trans (grow he)).free hx
      have s38 := s6.trans s8
      refine ⟨y, dx, sf, D, e, fs2, fs, ob2, asx, ns2, us2, rfl, upd_same, s38 _ _ hsf4, pfs.nodup_iff.mpr W.fn, fw2, by rw [pfs.length_eq]; exact W.f1, by rw [pfs.length_eq]; exact W.f2, O6.same s8, pfs.length_eq, fun g hg => pfs.mem_iff.mp hg, W.k2, by omega, he8, W.u2, W.n2, W.w2, W.l2, W.b2, fun ord r H' hH hk => ⟨rfl, ?_⟩⟩
      have s3 : Same H4 H' := fun b u e => hk b u (ne_of_none e hx3) (s38 b u e)
      exact ⟨y, ord, r, rfl, M4.same s3, A1.same s3, hH⟩
    rintro σ' H5 ⟨y, ord2, r2, rfl, M5, A1', A2⟩
    clear M4 hsf4 A1
    have E12 := eq_due A1'.fin A2.fin A1'.perm A2.perm A1'.srt A2.srt hbb
    have E21 := enc_comm.trans E12
    have S1 : SeqAt.shaped (shapeD fs fs ob1 ws us1 ord1 r1) = true := encS_shaped W.fw fun z hz => by
      obtain ⟨g, hg, rfl⟩ := List.mem_map.mp hz
      exact W.w1 g (A1'.perm.mem_iff.mp hg)
    have S2 : SeqAt.shaped (shapeD fs2 fs ob2 ns2 us2 ord2 r2) = true := encS_shaped fw2 fun z hz => by
      obtain ⟨g, hg, rfl⟩ := List.mem_map.mp hz
      exact W.w2 g (A2.perm.mem_iff.mp hg)
    obtain ⟨dx1, t1, l1, m1, s1, at1, hx1, Oh1, hm1, Dp1⟩ := A1'.ex
    obtain ⟨dx2, t2, l2, m2, s2, at2, hx2, Oh2, hm2, Dp2⟩ := A2.ex
    have ty1 : TyX K H5 (.ref x) (.ref C) := .base (.ins hx1 T.cl T.ha T.hn T.htk T.hm)
    have ty2 : TyX K H5 (.ref y) (.ref C) := .base (.ins hx2 T.cl T.ha T.hn T.htk T.hm)
    -- the test
    refine ⟨_, rfl, _, rfl, x, dx1, _, .ref C, rfl, hx1, ty2, notFirst_self K C, x, dx1, s1, _, .ref y, _, rfl, hx1, l4S _ _ _ _, Dp1, S1, .inl ⟨y, dx2, s2, _, _, rfl, hx2, l4S _ _ _ _, Dp2, S2, ?_⟩⟩
    rw [E12]
    refine ⟨_, rfl, rfl, _, rfl, ?_⟩
    rw [ne_self]
    refine iteF ?_
    refine ⟨_, rfl, _, rfl, y, dx2, _, .ref C, rfl, hx2, ty1, notFirst_self K C, y, dx2, s2, _, .ref x, _, rfl, hx2, l4S _ _ _ _, Dp2, S2, .inl ⟨x, dx1, s1, _, _, rfl, hx1, l4S _ _ _ _, Dp1, S1, ?_⟩⟩
    rw [E21]
    refine ⟨_, rfl, rfl, _, rfl, ?_⟩
    rw [ne_self]
    refine iteF ?_
    refine ⟨_, rfl, _, rfl, x, dx1, _, .ref C, rfl, hx1, ty1, notFirst_self K C, x, dx1, s1, _, .ref x, _, rfl, hx1, l4S _ _ _ _, Dp1, S1, .inl ⟨x, dx1, s1, _, _, rfl, hx1, l4S _ _ _ _, Dp1, S1, ?_⟩⟩
    rw [enc_self]
    refine ⟨true, true, rfl, rfl, _, rfl, iteF ?_⟩
    -- the strangers
    refine ⟨_, rfl, _, rfl, (by show 5 ≤ sizeLine; decide), fun L hL => ⟨L, rfl, ⟨_, SqL.of upd_same⟩, ?_⟩⟩
    have sL := grow (o := .lst [.non, .str "heap", .int 0, .ref o1, .ref d1]) hL
    have hLs : (upd H5 L (.lst [.non, .str "heap", .int 0, .ref o1, .ref d1])) L = some (.lst [.non, .str "heap", .int 0, .ref o1, .ref d1]) := upd_same
    generalize upd H5 L (.lst [.non, .str "heap", .int 0, .ref o1, .ref d1]) = H6 at sL hLs
    refine for_list (K := K) (a := L) (xs := [.non, .str "heap", .int 0, .ref o1, .ref d1]) (fun i σ' H' => ∃ v18, σ' = [some (.ref sc), some (.ref p), some (.int (sz : Int)), some (.int (ch : Int)), some (.int (ob1.length : Int)), some (.int ((ob1.length : Int) + (n5 : Int))), some (.ref a), some (.ref b), some (.ref o1), some (.ref d1), some (.ref t), some (.ref q), some (.ref d2), v13, some (.ref sf), some (.bl bb), some (.ref x), some (.ref y), v18, none] ∧ H' = H6) ⟨none, rfl, rfl⟩ (fun i σ' H' _ ⟨_, _, e⟩ => by rw [e]; exact SqL.of hLs) ?_ ?_
    · rintro i z σ' H' hz ⟨v18, rfl, rfl⟩
      have ty : ∃ tt, tt ∈ ["NoneType", "str", "int", "list", "dict"] ∧ TyX K H' z (.type tt) := by
        match i, hz with
        | 0, h => cases h; exact ⟨"NoneType", by simp, .base .non⟩
        | 1, h => cases h; exact ⟨"str", by simp, .base (.str _)⟩
        | 2, h => cases h; exact ⟨"int", by simp, .base (.int _)⟩
        | 3, h => cases h; exact ⟨"list", by simp, .base (.lst (sL _ _ M5.O1.lst))⟩
        | 4, h => cases h; exact ⟨"dict", by simp, .base (.dK (sL _ _ M5.d1))⟩
      obtain ⟨tt, htt, ty⟩ := ty
      obtain ⟨n1, n2⟩ := T.no tt htt
      refine ⟨_, rfl, _, rfl, x, dx1, _, .type tt, rfl, sL _ _ hx1, ty, n2, x, dx1, s1, _, z, _, rfl, sL _ _ hx1, l4S _ _ _ _, Dp.same sL _ _ Dp1, S1, .inr ⟨.type tt, ty, n1, ?_⟩⟩
      refine ⟨false, false, rfl, rfl, _, rfl, iteF ?_⟩
      exact ⟨_, rfl, rfl⟩
    rintro σ' H' ⟨v18, rfl, rfl⟩
    -- what the heaps tell
    have no1 : ∀ {t l d s : Addr}, (flds t l d s).lookup ("objects" : Str) = Option.none := l4no _ _ _ _ (by decide +kernel) (by decide +kernel) (by decide +kernel) (by decide +kernel)
    have no2 : ∀ {t l d s : Addr}, (flds t l d s).lookup ("names" : Str) = Option.none := l4no _ _ _ _ (by decide +kernel) (by decide +kernel) (by decide +kernel) (by decide +kernel)
    refine ⟨_, rfl, x, dx1, _, rfl, sL _ _ hx1, no1, x, dx1, t1, l1, m1, s1, fs, ob1, at1, rfl, sL _ _ hx1, Oh1.same sL, by omega, fun q1 as3 H7 s7 O7 => ?_⟩
    have s57 := sL.trans s7
    refine ⟨_, rfl, 2, by decide, eqv_objs O7 (M5.O1.same s57) W.fn (fun ob h => (W.k1 ob h).1), _, rfl, iteT ?_⟩
    refine ⟨_, rfl, x, dx1, _, rfl, s57 _ _ hx1, no2, x, dx1, t1, l1, m1, s1, ws, us1, rfl, s57 _ _ hx1, s57 _ _ hm1, fun q2 H8 s8 h8 => ?_⟩
    have s58 := s57.trans s8
    refine ⟨_, rfl, 1, by decide, eqv_dict h8 (s58 _ _ M5.d1) W.n1 W.u1, _, rfl, iteT ?_⟩
    refine ⟨_, rfl, y, dx2, _, rfl, s58 _ _ hx2, no1, y, dx2, t2, l2, m2, s2, fs, ob2, at2, rfl, s58 _ _ hx2, Oh2.same s58, by omega, fun q3 as4 H9 s9 O9 => ?_⟩
    have s59 := s58.trans s9
    refine ⟨_, rfl, 2, by decide, eqv_objs O9 (M5.O2.same s59) W.fn (fun ob h => (W.k2 ob h).1), _, rfl, iteT ?_⟩
    refine ⟨_, rfl, y, dx2, _, rfl, s59 _ _ hx2, no2, y, dx2, t2, l2, m2, s2, ns2, us2, rfl, s59 _ _ hx2, s59 _ _ hm2, fun q4 Hz sz' h10 => ?_⟩
    refine ⟨_, rfl, 1, by decide, eqv_dict h10 ((s59.trans sz') _ _ M5.d2) W.n2 W.u2, ?_⟩
    exact k _
end
end K5
end partK5N
section partK5P
set_option Elab.async false
set_option linter.all false
set_option maxRecDepth 100000
set_option maxHeartbeats 4000000
/-! The head's facts, joined with the walk. -/
namespace K5
open PySem PySem.Spec PyProof.Rows L2
theorem xb_split {K : PySem.W.Frag} (h : xb K = true) : PySem.W.findIn K (.ref (He.ga K "Heap")) "__class__" = some (some (.builtin "object.__class__")) ∧ PySem.W.specialIn K (.builtin "object.__class__") "__get__" = some (some (.builtin "getset_descriptor.__get__")) ∧
    PySem.W.takesIn K (.builtin "object.__class__") = some true ∧ PySem.W.mroIn K (He.ga K "Heap") (.type "object") = some true ∧
    ∀ t, t ∈ ["NoneType", "str", "int", "list", "dict"] → PySem.W.kitOne K (.type t) (.ref (He.ga K "Heap")) = some false ∧ PySem.W.notFirst K (He.ga K "Heap") (.type t) = true := by
  unfold xb at h
  rw [Bool.and_eq_true, Bool.and_eq_true, Bool.and_eq_true, Bool.and_eq_true] at h
  obtain ⟨h1, h2, h3, h4, h5⟩ := h
  refine ⟨of_decide_eq_true h1, of_decide_eq_true h2, of_decide_eq_true h3, of_decide_eq_true h4, fun t ht => ?_⟩
  have := List.all_eq_true.mp h5 t ht
  rw [Bool.and_eq_true] at this
  exact ⟨of_decide_eq_true this.1, this.2⟩
section
variable {P : Program} {w : World} {K : PySem.W.Frag} {h : Heap} {mg : Str → Option Value} {base : Heap}
theorem blt_of (X : K.In h) (G : h.Ns mainGlobals mg) (c : Says K) : Blt mg :=
  ⟨He.free_ok X G (c.d.fact 27 (f := .free "len") rfl), He.free_ok X G (c.d.fact 28 (f := .free "int") rfl), He.free_ok X G (c.d.fact 29 (f := .free "isinstance") rfl), He.free_ok X G (c.d.fact 30 (f := .free "str") rfl), He.free_ok X G (c.d.fact 31 (f := .free "bool") rfl),
    He.free_ok X G (c.d.fact 32 (f := .free "list") rfl), He.free_ok X G (c.d.fact 33 (f := .free "tuple") rfl), He.free_ok X G (c.d.fact 34 (f := .free "dict") rfl), He.free_ok X G (c.d.fact 35 (f := .free "range") rfl), He.free_ok X G (c.d.fact 36 (f := .free "sorted") rfl), He.free_ok X G (c.d.fact 37 (f := .free "enumerate") rfl),
    He.str_ok X G (c.d.fact 23 (f := .str "LETTERS" "abcdefghijklmnopqrstuvwxyz") rfl), He.int_ok X G (c.d.fact 24 (f := .int "LONGEST" 8) rfl), He.int_ok X G (c.d.fact 25 (f := .int "MOST_OBJECTS" 200) rfl), He.int_ok X G (c.d.fact 26 (f := .int "MOST_NAMES" 6) rfl)⟩
theorem cls_of (X : K.In h) (G : h.Ns mainGlobals mg) (c : Says K) : ClsT K mg (He.ga K "Heap") :=
  ⟨He.cls_ok (c.d.fact 38 (f := .cls "Heap") rfl), He.noat_ok (c.d.fact 39 (f := .noat "Heap" "fields") rfl), He.noat_ok (c.d.fact 40 (f := .noat "Heap" "held") rfl), He.noat_ok (c.d.fact 41 (f := .noat "Heap" "holders") rfl), He.noat_ok (c.d.fact 42 (f := .noat "Heap" "shape") rfl),
    He.glo_ok X G (c.d.fact 9 (f := .glo "Heap") rfl), (xb_split c.x).1, (xb_split c.x).2.1, (xb_split c.x).2.2.1, (xb_split c.x).2.2.2.1, (xb_split c.x).2.2.2.2⟩
theorem cal_is_integer (X : K.In h) (G : h.Ns mainGlobals mg) (c : Says K) : ∃ fd, Cal P w K mg base "is_integer" 1 ["value"] spIsInt (He.ga K "is_integer") fd := by
  have B := blt_of X G c
  obtain ⟨fd, F⟩ := c.d.def_ 0 (d := dG "is_integer" sIsInteger) rfl
  exact ⟨fd, He.glo_ok X G (c.d.fact 0 (f := .glo "is_integer") rfl), F.kp, FunD.bindsN (ps := ["value"]) F (fun _ _ _ _ _ _ us hl => match us, hl with | [_], _ => rfl), ok_isInt F B⟩
theorem cal_is_word (X : K.In h) (G : h.Ns mainGlobals mg) (c : Says K) : ∃ fd, Cal P w K mg base "is_word" 1 ["value"] spIsWord (He.ga K "is_word") fd := by
  have B := blt_of X G c
  obtain ⟨fd, F⟩ := c.d.def_ 1 (d := dG "is_word" sIsWord) rfl
  exact ⟨fd, He.glo_ok X G (c.d.fact 1 (f := .glo "is_word") rfl), F.kp, FunD.bindsN (ps := ["value"]) F (fun _ _ _ _ _ _ us hl => match us, hl with | [_], _ => rfl), ok_isWord F B⟩
theorem cal_is_word_list (X : K.In h) (G : h.Ns mainGlobals mg) (c : Says K) : ∃ fd, Cal P w K mg base "is_word_list" 2 ["values", "least", "most"] spWordL (He.ga K "is_word_list") fd := by
  have B := blt_of X G c
  obtain ⟨fd, F⟩ := c.d.def_ 2 (d := dG "is_word_list" sIsWordList) rfl
  obtain ⟨_, C_is_word⟩ := cal_is_word (P := P) (w := w) (base := base) X G c
  exact ⟨fd, He.glo_ok X G (c.d.fact 2 (f := .glo "is_word_list") rfl), F.kp, FunD.bindsN (ps := ["values", "least", "most"]) F (fun _ _ _ _ _ _ us hl => match us, hl with | [_, _, _], _ => rfl), ok_wordL F B C_is_word⟩
theorem cal_is_number_below (X : K.In h) (G : h.Ns mainGlobals mg) (c : Says K) : ∃ fd, Cal P w K mg base "is_number_below" 2 ["value", "count"] spNumB (He.ga K "is_number_below") fd := by
  have B := blt_of X G c
  obtain ⟨fd, F⟩ := c.d.def_ 3 (d := dG "is_number_below" sIsNumber) rfl
  obtain ⟨_, C_is_integer⟩ := cal_is_integer (P := P) (w := w) (base := base) X G c
  exact ⟨fd, He.glo_ok X G (c.d.fact 3 (f := .glo "is_number_below") rfl), F.kp, FunD.bindsN (ps := ["value", "count"]) F (fun _ _ _ _ _ _ us hl => match us, hl with | [_, _], _ => rfl), ok_numB F C_is_integer⟩
theorem cal_is_object (X : K.In h) (G : h.Ns mainGlobals mg) (c : Says K) : ∃ fd, Cal P w K mg base "is_object" 3 ["item", "fields", "count"] spIsObj (He.ga K "is_object") fd := by
  have B := blt_of X G c
  obtain ⟨fd, F⟩ := c.d.def_ 4 (d := dG "is_object" sIsObject) rfl
  obtain ⟨_, C_is_number_below⟩ := cal_is_number_below (P := P) (w := w) (base := base) X G c
  exact ⟨fd, He.glo_ok X G (c.d.fact 4 (f := .glo "is_object") rfl), F.kp, FunD.bindsN (ps := ["item", "fields", "count"]) F (fun _ _ _ _ _ _ us hl => match us, hl with | [_, _, _], _ => rfl), ok_isObj F B C_is_number_below⟩
theorem cal_check_objects (X : K.In h) (G : h.Ns mainGlobals mg) (c : Says K) : ∃ fd, Cal P w K mg base "check_objects" 4 ["objects", "fields"] spChkO (He.ga K "check_objects") fd := by
  have B := blt_of X G c
  obtain ⟨fd, F⟩ := c.d.def_ 5 (d := dG "check_objects" sCheckObjects) rfl
  obtain ⟨_, C_is_object⟩ := cal_is_object (P := P) (w := w) (base := base) X G c
  exact ⟨fd, He.glo_ok X G (c.d.fact 5 (f := .glo "check_objects") rfl), F.kp, FunD.bindsN (ps := ["objects", "fields"]) F (fun _ _ _ _ _ _ us hl => match us, hl with | [_, _], _ => rfl), ok_chkO F B C_is_object⟩
theorem cal_check_names (X : K.In h) (G : h.Ns mainGlobals mg) (c : Says K) : ∃ fd, Cal P w K mg base "check_names" 3 ["names", "count"] spChkN (He.ga K "check_names") fd := by
  have B := blt_of X G c
  obtain ⟨fd, F⟩ := c.d.def_ 6 (d := dG "check_names" sCheckNames) rfl
  obtain ⟨_, C_is_word⟩ := cal_is_word (P := P) (w := w) (base := base) X G c
  obtain ⟨_, C_is_number_below⟩ := cal_is_number_below (P := P) (w := w) (base := base) X G c
  exact ⟨fd, He.glo_ok X G (c.d.fact 6 (f := .glo "check_names") rfl), F.kp, FunD.bindsN (ps := ["names", "count"]) F (fun _ _ _ _ _ _ us hl => match us, hl with | [_, _], _ => rfl), ok_chkN F B C_is_number_below C_is_word⟩
theorem cal_meeting_numbers (X : K.In h) (G : h.Ns mainGlobals mg) (c : Says K) : ∃ fd, Cal P w K mg base "meeting_numbers" 1 ["objects", "fields", "roots"] (spMeet K) (He.ga K "meeting_numbers") fd := by
  have B := blt_of X G c
  obtain ⟨fd, F⟩ := c.d.def_ 7 (d := dG "meeting_numbers" sMeeting) rfl
  exact ⟨fd, He.glo_ok X G (c.d.fact 7 (f := .glo "meeting_numbers") rfl), F.kp, FunD.bindsN (ps := ["objects", "fields", "roots"]) F (fun _ _ _ _ _ _ us hl => match us, hl with | [_, _, _], _ => rfl), ok_meet F B⟩
theorem cal_renumbered (X : K.In h) (G : h.Ns mainGlobals mg) (c : Says K) : ∃ fd, Cal P w K mg base "renumbered" 1 ["value", "numbers"] spRenum (He.ga K "renumbered") fd := by
  have B := blt_of X G c
  obtain ⟨fd, F⟩ := c.d.def_ 8 (d := dG "renumbered" sRenumbered) rfl
  exact ⟨fd, He.glo_ok X G (c.d.fact 8 (f := .glo "renumbered") rfl), F.kp, FunD.bindsN (ps := ["value", "numbers"]) F (fun _ _ _ _ _ _ us hl => match us, hl with | [_, _], _ => rfl), ok_renum F⟩
theorem cal__law_draw (X : K.In h) (G : h.Ns mainGlobals mg) (c : Says K) : ∃ fd, Cal P w K mg base "_law_draw" 1 ["_law_pool", "_law_limit"] spDraw (He.ga K "_law_draw") fd := by
  have B := blt_of X G c
  obtain ⟨fd, F⟩ := c.d.def_ 14 (d := dG "_law_draw" sDraw) rfl
  exact ⟨fd, He.glo_ok X G (c.d.fact 10 (f := .glo "_law_draw") rfl), F.kp, FunD.bindsN (ps := ["_law_pool", "_law_limit"]) F (fun _ _ _ _ _ _ us hl => match us, hl with | [_, _], _ => rfl), ok_draw F B⟩
theorem cal__law_pick (X : K.In h) (G : h.Ns mainGlobals mg) (c : Says K) : ∃ fd, Cal P w K mg base "_law_pick" 2 ["_law_pool", "_law_row"] spPick (He.ga K "_law_pick") fd := by
  have B := blt_of X G c
  obtain ⟨fd, F⟩ := c.d.def_ 15 (d := dG "_law_pick" sPick) rfl
  obtain ⟨_, C__law_draw⟩ := cal__law_draw (P := P) (w := w) (base := base) X G c
  exact ⟨fd, He.glo_ok X G (c.d.fact 11 (f := .glo "_law_pick") rfl), F.kp, FunD.bindsN (ps := ["_law_pool", "_law_row"]) F (fun _ _ _ _ _ _ us hl => match us, hl with | [_, _], _ => rfl), ok_pick F B C__law_draw⟩
theorem cal__law_word (X : K.In h) (G : h.Ns mainGlobals mg) (c : Says K) : ∃ fd, Cal P w K mg base "_law_word" 2 ["_law_pool", "_law_taken"] spWord (He.ga K "_law_word") fd := by
  have B := blt_of X G c
  obtain ⟨fd, F⟩ := c.d.def_ 16 (d := dG "_law_word" sWord) rfl
  obtain ⟨_, C__law_draw⟩ := cal__law_draw (P := P) (w := w) (base := base) X G c
  exact ⟨fd, He.glo_ok X G (c.d.fact 12 (f := .glo "_law_word") rfl), F.kp, FunD.bindsN (ps := ["_law_pool", "_law_taken"]) F (fun _ _ _ _ _ _ us hl => match us, hl with | [_, _], _ => rfl), ok_word F B C__law_draw⟩
theorem cal__law_words (X : K.In h) (G : h.Ns mainGlobals mg) (c : Says K) : ∃ fd, Cal P w K mg base "_law_words" 3 ["_law_pool", "_law_least", "_law_most"] spWords (He.ga K "_law_words") fd := by
  have B := blt_of X G c
  obtain ⟨fd, F⟩ := c.d.def_ 17 (d := dG "_law_words" sWords) rfl
  obtain ⟨_, C__law_draw⟩ := cal__law_draw (P := P) (w := w) (base := base) X G c
  obtain ⟨_, C__law_word⟩ := cal__law_word (P := P) (w := w) (base := base) X G c
  exact ⟨fd, He.glo_ok X G (c.d.fact 13 (f := .glo "_law_words") rfl), F.kp, FunD.bindsN (ps := ["_law_pool", "_law_least", "_law_most"]) F (fun _ _ _ _ _ _ us hl => match us, hl with | [_, _, _], _ => rfl), ok_words F B C__law_draw C__law_word⟩
theorem cal__law_value (X : K.In h) (G : h.Ns mainGlobals mg) (c : Says K) : ∃ fd, Cal P w K mg base "_law_value" 2 ["_law_pool", "_law_count"] spValue (He.ga K "_law_value") fd := by
  have B := blt_of X G c
  obtain ⟨fd, F⟩ := c.d.def_ 18 (d := dG "_law_value" sValue) rfl
  obtain ⟨_, C__law_draw⟩ := cal__law_draw (P := P) (w := w) (base := base) X G c
  exact ⟨fd, He.glo_ok X G (c.d.fact 14 (f := .glo "_law_value") rfl), F.kp, FunD.bindsN (ps := ["_law_pool", "_law_count"]) F (fun _ _ _ _ _ _ us hl => match us, hl with | [_, _], _ => rfl), ok_value F B C__law_draw⟩
theorem cal__law_objects (X : K.In h) (G : h.Ns mainGlobals mg) (c : Says K) : ∃ fd, Cal P w K mg base "_law_objects" 3 ["_law_pool", "_law_fields", "_law_count"] spLObjs (He.ga K "_law_objects") fd := by
  have B := blt_of X G c
  obtain ⟨fd, F⟩ := c.d.def_ 19 (d := dG "_law_objects" sLObjects) rfl
  obtain ⟨_, C__law_value⟩ := cal__law_value (P := P) (w := w) (base := base) X G c
  exact ⟨fd, He.glo_ok X G (c.d.fact 15 (f := .glo "_law_objects") rfl), F.kp, FunD.bindsN (ps := ["_law_pool", "_law_fields", "_law_count"]) F (fun _ _ _ _ _ _ us hl => match us, hl with | [_, _, _], _ => rfl), ok_lobjs F B C__law_value⟩
theorem cal__law_names (X : K.In h) (G : h.Ns mainGlobals mg) (c : Says K) : ∃ fd, Cal P w K mg base "_law_names" 2 ["_law_pool", "_law_names_here", "_law_count"] spLNames (He.ga K "_law_names") fd := by
  have B := blt_of X G c
  obtain ⟨fd, F⟩ := c.d.def_ 20 (d := dG "_law_names" sLNames) rfl
  obtain ⟨_, C__law_draw⟩ := cal__law_draw (P := P) (w := w) (base := base) X G c
  exact ⟨fd, He.glo_ok X G (c.d.fact 16 (f := .glo "_law_names") rfl), F.kp, FunD.bindsN (ps := ["_law_pool", "_law_names_here", "_law_count"]) F (fun _ _ _ _ _ _ us hl => match us, hl with | [_, _, _], _ => rfl), ok_lnames F B C__law_draw⟩
theorem cal__law_pair (X : K.In h) (G : h.Ns mainGlobals mg) (c : Says K) : ∃ fd, Cal P w K mg base "_law_pair" 1 ["_law_left", "_law_right", "_law_queue", "_law_one", "_law_two"] spPair (He.ga K "_law_pair") fd := by
  have B := blt_of X G c
  obtain ⟨fd, F⟩ := c.d.def_ 21 (d := dG "_law_pair" sPair) rfl
  exact ⟨fd, He.glo_ok X G (c.d.fact 17 (f := .glo "_law_pair") rfl), F.kp, FunD.bindsN (ps := ["_law_left", "_law_right", "_law_queue", "_law_one", "_law_two"]) F (fun _ _ _ _ _ _ us hl => match us, hl with | [_, _, _, _, _], _ => rfl), ok_pair F⟩
theorem cal__law_alike (X : K.In h) (G : h.Ns mainGlobals mg) (c : Says K) : ∃ fd, Cal P w K mg base "_law_alike" 2 ["_law_fields", "_law_one", "_law_two", "_law_names_here", "_law_others"] spAlike (He.ga K "_law_alike") fd := by
  have B := blt_of X G c
  obtain ⟨fd, F⟩ := c.d.def_ 22 (d := dG "_law_alike" sAlike) rfl
  obtain ⟨_, C__law_pair⟩ := cal__law_pair (P := P) (w := w) (base := base) X G c
  exact ⟨fd, He.glo_ok X G (c.d.fact 18 (f := .glo "_law_alike") rfl), F.kp, FunD.bindsN (ps := ["_law_fields", "_law_one", "_law_two", "_law_names_here", "_law_others"]) F (fun _ _ _ _ _ _ us hl => match us, hl with | [_, _, _, _, _], _ => rfl), ok_alike F B C__law_pair⟩
theorem cal__law_moved (X : K.In h) (G : h.Ns mainGlobals mg) (c : Says K) : ∃ fd, Cal P w K mg base "_law_moved" 1 ["_law_value_here", "_law_slots"] spMoved (He.ga K "_law_moved") fd := by
  have B := blt_of X G c
  obtain ⟨fd, F⟩ := c.d.def_ 23 (d := dG "_law_moved" sMoved) rfl
  exact ⟨fd, He.glo_ok X G (c.d.fact 19 (f := .glo "_law_moved") rfl), F.kp, FunD.bindsN (ps := ["_law_value_here", "_law_slots"]) F (fun _ _ _ _ _ _ us hl => match us, hl with | [_, _], _ => rfl), ok_moved F⟩
theorem cal__law_second (X : K.In h) (G : h.Ns mainGlobals mg) (c : Says K) : ∃ fd, Cal P w K mg base "_law_second" 3 ["_law_pool", "_law_fields", "_law_objects_here", "_law_count", "_law_total"] spSecond (He.ga K "_law_second") fd := by
  have B := blt_of X G c
  obtain ⟨fd, F⟩ := c.d.def_ 24 (d := dG "_law_second" sSecond) rfl
  obtain ⟨_, C__law_draw⟩ := cal__law_draw (P := P) (w := w) (base := base) X G c
  obtain ⟨_, C__law_value⟩ := cal__law_value (P := P) (w := w) (base := base) X G c
  obtain ⟨_, C__law_moved⟩ := cal__law_moved (P := P) (w := w) (base := base) X G c
  exact ⟨fd, He.glo_ok X G (c.d.fact 20 (f := .glo "_law_second") rfl), F.kp, FunD.bindsN (ps := ["_law_pool", "_law_fields", "_law_objects_here", "_law_count", "_law_total"]) F (fun _ _ _ _ _ _ us hl => match us, hl with | [_, _, _, _, _], _ => rfl), ok_second F B C__law_draw C__law_moved C__law_value⟩
theorem cal__law_change (X : K.In h) (G : h.Ns mainGlobals mg) (c : Says K) : ∃ fd, Cal P w K mg base "_law_change" 3 ["_law_pool", "_law_change_here", "_law_fields", "_law_second_here", "_law_others"] spChange (He.ga K "_law_change") fd := by
  have B := blt_of X G c
  obtain ⟨fd, F⟩ := c.d.def_ 25 (d := dG "_law_change" sChange) rfl
  obtain ⟨_, C__law_draw⟩ := cal__law_draw (P := P) (w := w) (base := base) X G c
  obtain ⟨_, C__law_pick⟩ := cal__law_pick (P := P) (w := w) (base := base) X G c
  obtain ⟨_, C__law_value⟩ := cal__law_value (P := P) (w := w) (base := base) X G c
  exact ⟨fd, He.glo_ok X G (c.d.fact 21 (f := .glo "_law_change") rfl), F.kp, FunD.bindsN (ps := ["_law_pool", "_law_change_here", "_law_fields", "_law_second_here", "_law_others"]) F (fun _ _ _ _ _ _ us hl => match us, hl with | [_, _, _, _, _], _ => rfl), ok_change F B C__law_draw C__law_pick C__law_value⟩
theorem m_shape (X : K.In h) (G : h.Ns mainGlobals mg) (c : Says K) : ∃ fd, FnOk P w K mg base CX0 2 (He.ma K (He.ga K "Heap") "reckoned_shape") fd ["self"] (spShape K (He.ga K "Heap")) ∧ Binds K fd ["self"] [] := by
  have B := blt_of X G c
  obtain ⟨fd, F⟩ := c.d.def_ 10 (d := dM "reckoned_shape" "Heap.reckoned_shape" sShape) rfl
  obtain ⟨_, C1⟩ := cal_meeting_numbers (P := P) (w := w) (base := base) X G c
  obtain ⟨_, C2⟩ := cal_renumbered (P := P) (w := w) (base := base) X G c
  exact ⟨fd, ok_shape F B (cls_of X G c) C1 C2, FunD.bindsN (ps := ["self"]) F (fun _ _ _ _ _ _ us hl => match us, hl with | [_], _ => rfl)⟩
theorem m_init (X : K.In h) (G : h.Ns mainGlobals mg) (c : Says K) : ∃ fd, FnOk P w K mg base CX0 5 (He.ma K (He.ga K "Heap") "__init__") fd ["self", "fields", "objects", "names"] (spInit K (He.ga K "Heap")) ∧ Binds K fd ["self", "fields", "objects", "names"] [] := by
  have B := blt_of X G c
  obtain ⟨fd, F⟩ := c.d.def_ 9 (d := dM "__init__" "Heap.__init__" sInit) rfl
  obtain ⟨_, C1⟩ := cal_is_word_list (P := P) (w := w) (base := base) X G c
  obtain ⟨_, C2⟩ := cal_check_objects (P := P) (w := w) (base := base) X G c
  obtain ⟨_, C3⟩ := cal_check_names (P := P) (w := w) (base := base) X G c
  obtain ⟨_, G4, b4⟩ := m_shape (P := P) (w := w) (base := base) X G c
  exact ⟨fd, ok_init F B (cls_of X G c) C1 C2 C3 (He.meth_ok (c.d.fact 43 (f := .meth "Heap" "reckoned_shape") rfl)) G4 b4, FunD.bindsN (ps := ["self", "fields", "objects", "names"]) F (fun _ _ _ _ _ _ us hl => match us, hl with | [_, _, _, _], _ => rfl)⟩
theorem m_eq (X : K.In h) (G : h.Ns mainGlobals mg) (c : Says K) : ∃ fd, FnOk P w K mg base CX0 1 (He.ma K (He.ga K "Heap") "__eq__") fd ["self", "other"] (spEqH K (He.ga K "Heap")) ∧ Binds K fd ["self", "other"] [] := by
  obtain ⟨fd, F⟩ := c.d.def_ 11 (d := dM "__eq__" "Heap.__eq__" sEq) rfl
  exact ⟨fd, ok_eq F (blt_of X G c) (cls_of X G c), FunD.bindsN (ps := ["self", "other"]) F (fun _ _ _ _ _ _ us hl => match us, hl with | [_, _], _ => rfl)⟩
theorem m_objects (X : K.In h) (G : h.Ns mainGlobals mg) (c : Says K) : ∃ fd, FnOk P w K mg base CX0 1 (He.ma K (He.ga K "Heap") "objects") fd ["self"] (spObjsM (He.ga K "Heap")) ∧ Binds K fd ["self"] [] := by
  obtain ⟨fd, F⟩ := c.d.def_ 12 (d := dM "objects" "Heap.objects" sObjects) rfl
  exact ⟨fd, ok_objsM F (blt_of X G c) (cls_of X G c), FunD.bindsN (ps := ["self"]) F (fun _ _ _ _ _ _ us hl => match us, hl with | [_], _ => rfl)⟩
theorem m_names (X : K.In h) (G : h.Ns mainGlobals mg) (c : Says K) : ∃ fd, FnOk P w K mg base CX0 1 (He.ma K (He.ga K "Heap") "names") fd ["self"] (spNamesM (He.ga K "Heap")) ∧ Binds K fd ["self"] [] := by
  obtain ⟨fd, F⟩ := c.d.def_ 13 (d := dM "names" "Heap.names" sNames) rfl
  exact ⟨fd, ok_namesM F (blt_of X G c) (cls_of X G c), FunD.bindsN (ps := ["self"]) F (fun _ _ _ _ _ _ us hl => match us, hl with | [_], _ => rfl)⟩
end
theorem facts {P : Program} {w : World} {K : PySem.W.Frag} {h : Heap} {mg : Str → Option Value} {f : Addr} (X : K.In h) (G : h.Ns mainGlobals mg) (hfa : mg ("law" : Str) = some (.ref f)) (c : Says K) :
    ∃ fd : FuncData, (∀ (s : Shared) (v : Value), BindsTo s fd ⟨[v], []⟩ [("_law_script", v)]) ∧ ∀ base : Heap, K.In base → base.Ns mainGlobals mg → FnOk P w K mg base CX0 7 f fd ["_law_script"] (spLaw K) := by
  obtain ⟨fd, F⟩ := c.d.def_ 26 (d := dG "law" sLaw) rfl
  have e := hfa.symm.trans (He.glo_ok X G (c.d.fact 22 (f := .glo "law") rfl))
  cases e
  have b := FunD.bindsA (ps := ["_law_script"]) F (fun _ _ _ _ _ _ us hl => match us, hl with | [_], _ => rfl)
  refine ⟨fd, fun s v => b s [v] rfl, fun base _ _ => ?_⟩
  obtain ⟨_, CD⟩ := cal__law_draw (P := P) (w := w) (base := base) X G c
  obtain ⟨_, CW⟩ := cal__law_words (P := P) (w := w) (base := base) X G c
  obtain ⟨_, CO⟩ := cal__law_objects (P := P) (w := w) (base := base) X G c
  obtain ⟨_, CN⟩ := cal__law_names (P := P) (w := w) (base := base) X G c
  obtain ⟨_, CS⟩ := cal__law_second (P := P) (w := w) (base := base) X G c
  obtain ⟨_, CM⟩ := cal__law_moved (P := P) (w := w) (base := base) X G c
  obtain ⟨_, CC⟩ := cal__law_change (P := P) (w := w) (base := base) X G c
  obtain ⟨_, CA⟩ := cal__law_alike (P := P) (w := w) (base := base) X G c
  obtain ⟨_, GI, bI⟩ := m_init (P := P) (w := w) (base := base) X G c
  obtain ⟨_, GE, bE⟩ := m_eq (P := P) (w := w) (base := base) X G c
  obtain ⟨_, GO, bO⟩ := m_objects (P := P) (w := w) (base := base) X G c
  obtain ⟨_, GN, bN⟩ := m_names (P := P) (w := w) (base := base) X G c
  exact ok_law F (blt_of X G c) (cls_of X G c) CD CW CO CN CS CM CC CA (He.mkr_ok (c.d.fact 47 (f := .mkr "Heap") rfl)) GI bI (He.meth_ok (c.d.fact 44 (f := .meth "Heap" "__eq__") rfl)) GE bE
    (He.meth_ok (c.d.fact 45 (f := .meth "Heap" "objects") rfl)) GO bO (He.meth_ok (c.d.fact 46 (f := .meth "Heap" "names") rfl)) GN bN
end K5
open PySem PySem.W PySem.Calls PyProof.Rows
theorem PySem.Challenge.cw_thawedwrites_k05_whole_equal_heaps_holds : PySem.Challenge.rw_thawedwrites_k05_whole_equal_heaps.Holds := by
  w_on; o_law
  refine HandSHeadRun.head_any (r := OpenLaw.row PySem.Challenge.rw_thawedwrites_k05_whole_equal_heaps) (q := view (OpenLaw.row PySem.Challenge.rw_thawedwrites_k05_whole_equal_heaps).prog [33]) (H := K5.hk) (ob := K5.ob) (M := 4000) (loose := K5.loose) (d := HandSHeadRun.topDef (OpenLaw.row PySem.Challenge.rw_thawedwrites_k05_whole_equal_heaps).prog 33) (kwd := []) K5.ob_eq
    (by kernel_rfl) (fun s => by kernel_rfl) K5.run (by kernel_rfl) (by kernel_rfl) (by kernel_rfl) (by rfl) (by first | assumption | decide +kernel) (by decide +kernel) ⟨rfl, rfl, rfl, rfl, rfl, by decide +kernel⟩ ?hw ?hc
  case hw => w_witness2
  case hc =>
    refine L2.walk_ofE (l := PySem.Challenge.rw_thawedwrites_k05_whole_equal_heaps) (n := 63) (k := 7) (x := "_law_script") (CX := L2.CX0) rfl (by decide) (by kernel_rfl) ⟨rfl, by decide, by decide⟩ ?F (fun _ _ _ _ z => z)
    intro w mg fa h Y G hmg0
    obtain ⟨K, KX, c⟩ := Y
    have hmg : mg ("law" : PySem.Str) = some (.ref fa) := by
      have e : (HandSHeadRun.topDef (OpenLaw.row PySem.Challenge.rw_thawedwrites_k05_whole_equal_heaps).prog 33).name = ("law" : PySem.Str) := by kernel_rfl
      rw [← e]
      exact hmg0
    obtain ⟨fd, hb, hF⟩ := K5.facts (P := (PySem.Challenge.rw_thawedwrites_k05_whole_equal_heaps).prog) (w := w) KX G hmg c
    exact ⟨K, fd, K5.spLaw K, KX, hb, fun H a ns hl _ hS => ⟨a, ns, rfl, hS, hl, fun _ => rfl⟩, hF⟩
end partK5P
