import PyProof.Rows.All
import HandS.ForMost
import HandS.ForExc
import HandS.ExcInit
import HandS.ExcField
import HandS.CallSlots
import HandS.TryMany
import HandS.IsInst
import HandS.Style
import HandS.Flow
import HandS.Conv
import HandS.Codes
import HandS.Wide
import HandS.TupAny
import HandS.Deep
import HandS.Iter
import HandS.ExcIs
import HandS.Small
import HandS.HeadHook4
import PyProof.StrLawsIdx
import PyProof.StrLawsNeg
import PyProof.StrLawsTight
import PyProof.StrLawsChain
import PySem.Challenge.RW_nestedhands_k54_texts_of_rates
import HandS.Ends
set_option Elab.async false
set_option linter.all false
set_option maxRecDepth 100000
/-! VL, part 1: trees as values, programs as predicate transformers, the judgements. -/
namespace VL
open PySem PySem.Spec PyProof.Rows L2

abbrev St := L2.St
/-! ### predicate transformers -/
structure Wp (ε α : Type) where
  run : (α → Prop) → (ε → Prop) → Prop
  mono : ∀ {K K' : α → Prop} {E E' : ε → Prop}, (∀ a, K a → K' a) → (∀ e, E e → E' e) → run K E → run K' E'
namespace Wp
variable {ε ε' α β : Type}
def ret (a : α) : Wp ε α := ⟨fun K _ => K a, fun h _ x => h _ x⟩
def bind (m : Wp ε α) (f : α → Wp ε β) : Wp ε β := ⟨fun K E => m.run (fun a => (f a).run K E) E, fun h e x => m.mono (fun a => (f a).mono h e) e x⟩
def stuck : Wp ε α := ⟨fun _ _ => False, fun _ _ x => x⟩
def raise (e : ε) : Wp ε α := ⟨fun _ E => E e, fun _ h x => h _ x⟩
def mapE (g : ε → ε') (m : Wp ε α) : Wp ε' α := ⟨fun K E => m.run K fun e => E (g e), fun h e x => m.mono h (fun _ => e _) x⟩
def all (p : ι → Prop) (f : ι → Wp ε α) : Wp ε α := ⟨fun K E => ∀ i, p i → (f i).run K E, fun h e x i hi => (f i).mono h e (x i hi)⟩
def ofOpt (o : Option α) : Wp ε α := match o with
  | some a => ret a
  | none => stuck
@[simp] theorem ret_bind (a : α) (f : α → Wp ε β) : (ret a : Wp ε α).bind f = f a := (rfl)
@[simp] theorem stuck_bind (f : α → Wp ε β) : (stuck : Wp ε α).bind f = stuck := (rfl)
@[simp] theorem raise_bind (e : ε) (f : α → Wp ε β) : (raise e : Wp ε α).bind f = raise e := (rfl)
@[simp] theorem bind_bind {γ : Type} (m : Wp ε α) (f : α → Wp ε β) (g : β → Wp ε γ) : (m.bind f).bind g = m.bind fun a => (f a).bind g := (rfl)
@[simp] theorem bind_ret (m : Wp ε α) : m.bind ret = m := (rfl)
@[simp] theorem ofOpt_some (a : α) : (ofOpt (some a) : Wp ε α) = ret a := (rfl)
@[simp] theorem ofOpt_none : (ofOpt none : Wp ε α) = stuck := (rfl)
@[simp] theorem run_ret (a : α) (K : α → Prop) (E : ε → Prop) : (ret a : Wp ε α).run K E = K a := (rfl)
@[simp] theorem run_raise (a : ε) (K : α → Prop) (E : ε → Prop) : (raise a : Wp ε α).run K E = E a := (rfl)
@[simp] theorem run_bind (m : Wp ε α) (f : α → Wp ε β) (K : β → Prop) (E : ε → Prop) : (m.bind f).run K E = m.run (fun a => (f a).run K E) E := (rfl)
@[simp] theorem mapE_ret (g : ε → ε') (a : α) : (ret a : Wp ε α).mapE g = ret a := (rfl)
@[simp] theorem mapE_raise (g : ε → ε') (a : ε) : (raise a : Wp ε α).mapE g = raise (g a) := (rfl)
@[simp] theorem mapE_stuck (g : ε → ε') : (stuck : Wp ε α).mapE g = stuck := (rfl)
@[simp] theorem mapE_bind (g : ε → ε') (m : Wp ε α) (f : α → Wp ε β) : (m.bind f).mapE g = (m.mapE g).bind fun a => (f a).mapE g := (rfl)
theorem ext_run {m m' : Wp ε α} (h : ∀ K E, m.run K E ↔ m'.run K E) : m = m' := by
  obtain ⟨r, p⟩ := m
  obtain ⟨r', p'⟩ := m'
  have e : r = r' := funext fun K => funext fun E => propext (h K E)
  subst e
  rfl
end Wp

/-! ### trees -/
inductive PV where
  | non | bl (b : Bool) | int (i : Int) | str (x : Str)
  | tup (xs : List PV) | lst (g : Option Addr) (xs : List PV)
  | dic (g : Option Addr) (kvs : List (Key × PV))
  | ins (c : Nat) (fs : List (Str × PV))
  | scr (ns : List Int)
  /-- nothing known -/
  | any

/-- what is fixed of a run: the written part, the classes' addresses -/
structure Cn where
  K : PySem.W.Frag
  cA : Nat → Addr
  /-- what was there before: never a tagged node -/
  B : Addr → Prop

mutual
inductive Rep (c : Cn) (F : Hp) : V → PV → Prop
  | non : Rep c F .non .non
  | bl (b : Bool) : Rep c F (.bl b) (.bl b)
  | int (i : Int) : Rep c F (.int i) (.int i)
  | str (x : Str) : Rep c F (.str x) (.str x)
  | tup {a : Addr} {vs : List V} {xs : List PV} (h : F a = some (.tup vs)) (r : Reps c F vs xs) : Rep c F (.ref a) (.tup xs)
  | lst {a : Addr} {vs : List V} {g : Option Addr} {xs : List PV} (h : F a = some (.lst vs)) (r : Reps c F vs xs) (t : ∀ p, g = some p → p = a ∧ ¬ c.B p) : Rep c F (.ref a) (.lst g xs)
  | dic {a : Addr} {vs : List (Key × V)} {g : Option Addr} {xs : List (Key × PV)} (h : F a = some (.dK vs)) (r : RepD c F vs xs) (t : ∀ p, g = some p → p = a ∧ ¬ c.B p) : Rep c F (.ref a) (.dic g xs)
  | ins {a dx : Addr} {vs : List (Str × V)} {k : Nat} {xs : List (Str × PV)} (h : F a = some (.ins (c.cA k) dx vs)) (r : RepF c F vs xs) : Rep c F (.ref a) (.ins k xs)
  | scr {a : Addr} {ns : List Int} (h : SqL c.K F a (ns.map V.int)) : Rep c F (.ref a) (.scr ns)
  | any (v : V) : Rep c F v .any
inductive Reps (c : Cn) (F : Hp) : List V → List PV → Prop
  | nil : Reps c F [] []
  | cons {v : V} {x : PV} {vs : List V} {xs : List PV} (h : Rep c F v x) (r : Reps c F vs xs) : Reps c F (v :: vs) (x :: xs)
inductive RepD (c : Cn) (F : Hp) : List (Key × V) → List (Key × PV) → Prop
  | nil : RepD c F [] []
  | cons {k : Key} {v : V} {x : PV} {vs : List (Key × V)} {xs : List (Key × PV)} (h : Rep c F v x) (r : RepD c F vs xs) : RepD c F ((k, v) :: vs) ((k, x) :: xs)
inductive RepF (c : Cn) (F : Hp) : List (Str × V) → List (Str × PV) → Prop
  | nil : RepF c F [] []
  | cons {k : Str} {v : V} {x : PV} {vs : List (Str × V)} {xs : List (Str × PV)} (h : Rep c F v x) (r : RepF c F vs xs) : RepF c F ((k, v) :: vs) ((k, x) :: xs)
end

mutual
theorem Rep.mono {c : Cn} {F F' : Hp} (e : Same F F') : ∀ {v : V} {x : PV}, Rep c F v x → Rep c F' v x
  | _, _, .non => .non
  | _, _, .bl b => .bl b
  | _, _, .int i => .int i
  | _, _, .str x => .str x
  | _, _, .tup h r => .tup (e _ _ h) (Reps.mono e r)
  | _, _, .lst h r t => .lst (e _ _ h) (Reps.mono e r) t
  | _, _, .dic h r t => .dic (e _ _ h) (RepD.mono e r) t
  | _, _, .ins h r => .ins (e _ _ h) (RepF.mono e r)
  | _, _, .scr h => .scr (e.seq h)
  | _, _, .any v => .any v
theorem Reps.mono {c : Cn} {F F' : Hp} (e : Same F F') : ∀ {vs : List V} {xs : List PV}, Reps c F vs xs → Reps c F' vs xs
  | _, _, .nil => .nil
  | _, _, .cons h r => .cons (Rep.mono e h) (Reps.mono e r)
theorem RepD.mono {c : Cn} {F F' : Hp} (e : Same F F') : ∀ {vs : List (Key × V)} {xs : List (Key × PV)}, RepD c F vs xs → RepD c F' vs xs
  | _, _, .nil => .nil
  | _, _, .cons h r => .cons (Rep.mono e h) (RepD.mono e r)
theorem RepF.mono {c : Cn} {F F' : Hp} (e : Same F F') : ∀ {vs : List (Str × V)} {xs : List (Str × PV)}, RepF c F vs xs → RepF c F' vs xs
  | _, _, .nil => .nil
  | _, _, .cons h r => .cons (Rep.mono e h) (RepF.mono e r)
end

section
variable {c : Cn} {F : Hp}
theorem Reps.length : ∀ {vs : List V} {xs : List PV}, Reps c F vs xs → vs.length = xs.length
  | _, _, .nil => rfl
  | _, _, .cons _ r => congrArg Nat.succ (Reps.length r)
theorem Reps.get : ∀ {vs : List V} {xs : List PV} {i : Nat} {x : PV}, Reps c F vs xs → xs[i]? = some x → ∃ v, vs[i]? = some v ∧ Rep c F v x
  | _, _, i, x, .nil, e => by simp at e
  | _, _, 0, x, .cons h _, e => by simp at e; subst e; exact ⟨_, rfl, h⟩
  | _, _, i + 1, x, .cons _ r, e => by
    obtain ⟨v, h1, h2⟩ := Reps.get (i := i) (x := x) r (by simpa using e)
    exact ⟨v, by simpa using h1, h2⟩
theorem Reps.getV : ∀ {vs : List V} {xs : List PV} {i : Nat} {v : V}, Reps c F vs xs → vs[i]? = some v → ∃ x, xs[i]? = some x ∧ Rep c F v x
  | _, _, i, x, .nil, e => by simp at e
  | _, _, 0, x, .cons h _, e => by simp at e; subst e; exact ⟨_, rfl, h⟩
  | _, _, i + 1, x, .cons _ r, e => by
    obtain ⟨v, h1, h2⟩ := Reps.getV (i := i) (v := x) r (by simpa using e)
    exact ⟨v, by simpa using h1, h2⟩
theorem Reps.append : ∀ {vs ws : List V} {xs ys : List PV}, Reps c F vs xs → Reps c F ws ys → Reps c F (vs ++ ws) (xs ++ ys)
  | _, _, _, _, .nil, s => s
  | _, _, _, _, .cons h r, s => .cons h (Reps.append r s)
theorem Reps.take : ∀ {vs : List V} {xs : List PV} (n : Nat), Reps c F vs xs → Reps c F (vs.take n) (xs.take n)
  | _, _, 0, _ => .nil
  | _, _, _ + 1, .nil => .nil
  | _, _, n + 1, .cons h r => .cons h (Reps.take n r)
theorem Reps.drop : ∀ {vs : List V} {xs : List PV} (n : Nat), Reps c F vs xs → Reps c F (vs.drop n) (xs.drop n)
  | _, _, 0, r => r
  | _, _, _ + 1, .nil => .nil
  | _, _, n + 1, .cons _ r => Reps.drop n r
theorem Reps.set {v : V} {x : PV} (h : Rep c F v x) : ∀ {vs : List V} {xs : List PV} (i : Nat), Reps c F vs xs → Reps c F (vs.set i v) (xs.set i x)
  | _, _, _, .nil => .nil
  | _, _, 0, .cons _ r => .cons h r
  | _, _, i + 1, .cons q r => .cons q (Reps.set h i r)
theorem Reps.ofInts : ∀ ns : List Int, Reps c F (ns.map V.int) (ns.map PV.int)
  | [] => .nil
  | n :: ns => .cons (.int n) (Reps.ofInts ns)
theorem Reps.isEmpty {vs : List V} {xs : List PV} (r : Reps c F vs xs) : vs.isEmpty = xs.isEmpty := by cases r <;> rfl
theorem RepF.lookup {k : Str} {x : PV} : ∀ {vs : List (Str × V)} {xs : List (Str × PV)}, RepF c F vs xs → xs.lookup k = some x → ∃ v, vs.lookup k = some v ∧ Rep c F v x
  | _, _, .nil, e => by simp at e
  | _, _, .cons (k := k') h r, e => by
    rw [List.lookup_cons] at e ⊢
    cases hk : k == k' with
    | true => rw [hk] at e; exact ⟨_, rfl, by cases e; exact h⟩
    | false => rw [hk] at e; exact RepF.lookup r e
theorem RepF.lookupN {k : Str} : ∀ {vs : List (Str × V)} {xs : List (Str × PV)}, RepF c F vs xs → xs.lookup k = none → vs.lookup k = none
  | _, _, .nil, e => by simp
  | _, _, .cons (k := k') h r, e => by
    rw [List.lookup_cons] at e ⊢
    cases hk : k == k' with
    | true => rw [hk] at e; cases e
    | false => rw [hk] at e; exact RepF.lookupN r e
theorem RepD.length : ∀ {vs : List (Key × V)} {xs : List (Key × PV)}, RepD c F vs xs → vs.length = xs.length
  | _, _, .nil => rfl
  | _, _, .cons _ r => congrArg Nat.succ (RepD.length r)
end

/-! ### slots -/
inductive SV where
  | un | fz (v : PV) | ow (xs : List PV) | bx (n : Nat)
abbrev Env' := List SV
def SV.own : SV → Bool
  | .ow _ => true
  | .bx _ => true
  | _ => false
/-- the law's box of digits: its count is at most n -/
def BoxOk (n : Nat) (vs : List V) : Prop := ∃ (a : Int) (b : Bool) (d m : Int), vs = [.int a, .bl b, .int d, .int m] ∧ 0 ≤ a ∧ 0 ≤ d ∧ d < 2147483629 ∧ 0 ≤ m ∧ m ≤ n
theorem BoxOk.le {n m : Nat} {vs : List V} (h : BoxOk n vs) (e : n ≤ m) : BoxOk m vs := by
  obtain ⟨a, b, d, k, e1, h1, h2, h3, h4, h5⟩ := h
  exact ⟨a, b, d, k, e1, h1, h2, h3, h4, by omega⟩
def SlotR (c : Cn) (F H : Hp) (o : Option V) (s : SV) : Prop := match s with
  | .un => True
  | .fz v => ∃ w, o = some w ∧ Rep c F w v
  | .ow xs => ∃ p vs, o = some (.ref p) ∧ F p = none ∧ H p = some (.lst vs) ∧ Reps c F vs xs
  | .bx n => ∃ p vs, o = some (.ref p) ∧ F p = none ∧ H p = some (.lst vs) ∧ BoxOk n vs
def Own (σ : St) (ρ : Env') (p : Addr) : Prop := ∃ (i : Nat) (s : SV), σ[i]? = some (some (.ref p)) ∧ ρ[i]? = some s ∧ s.own = true
structure ER (c : Cn) (F H : Hp) (σ : St) (ρ : Env') : Prop where
  sub : Same F H
  len : σ.length = ρ.length
  slot : ∀ (i : Nat) (o : Option V) (s : SV), σ[i]? = some o → ρ[i]? = some s → SlotR c F H o s
  dis : ∀ (i j : Nat) (s t : SV) (p : Addr), σ[i]? = some (some (.ref p)) → σ[j]? = some (some (.ref p)) → ρ[i]? = some s → ρ[j]? = some t → s.own = true → t.own = true → i = j

/-- the frozen part grows, what is not owned stays -/
structure Stp (F H : Hp) (S : Addr → Prop) (F' H' : Hp) (S' : Addr → Prop) : Prop where
  ff : Same F F'
  hh : ∀ p o, H p = some o → ¬ S p → H' p = some o ∧ (F p = none → F' p = none)
  th : ∀ p o, H p = some o → ∃ o', H' p = some o'
  ow : ∀ p, S' p → S p ∨ H p = none
theorem Stp.refl (F H : Hp) (S : Addr → Prop) : Stp F H S F H S := ⟨Same.refl F, fun _ _ h _ => ⟨h, fun z => z⟩, fun _ o h => ⟨o, h⟩, fun _ h => .inl h⟩
theorem Stp.trans {F H F1 H1 F2 H2 : Hp} {S S1 S2 : Addr → Prop} (a : Stp F H S F1 H1 S1) (b : Stp F1 H1 S1 F2 H2 S2) : Stp F H S F2 H2 S2 where
  ff := a.ff.trans b.ff
  hh := fun p o h n => by
    obtain ⟨h1, f1⟩ := a.hh p o h n
    have n1 : ¬ S1 p := fun z => (a.ow p z).elim n fun q => by rw [h] at q; cases q
    obtain ⟨h2, f2⟩ := b.hh p o h1 n1
    exact ⟨h2, fun z => f2 (f1 z)⟩
  th := fun p o h => by
    obtain ⟨o1, h1⟩ := a.th p o h
    exact b.th p o1 h1
  ow := fun p h => by
    rcases b.ow p h with h | h
    · exact a.ow p h
    · refine .inr ?_
      cases q : H p with
      | none => rfl
      | some o =>
        obtain ⟨o1, h1⟩ := a.th p o q
        rw [h1] at h
        cases h
/-- both grow, nothing changes -/
structure Grow (F H F' H' : Hp) : Prop where
  ff : Same F F'
  hh : Same H H'
  sub : Same F' H'
  nf : ∀ p o, H p = some o → F p = none → F' p = none
theorem Grow.refl {F H : Hp} (s : Same F H) : Grow F H F H := ⟨Same.refl F, Same.refl H, s, fun _ _ _ z => z⟩
theorem Grow.trans {F H F1 H1 F2 H2 : Hp} (a : Grow F H F1 H1) (b : Grow F1 H1 F2 H2) : Grow F H F2 H2 :=
  ⟨a.ff.trans b.ff, a.hh.trans b.hh, b.sub, fun p o h z => b.nf p o (a.hh p o h) (a.nf p o h z)⟩
theorem Grow.stp {F H F' H' : Hp} (g : Grow F H F' H') (S : Addr → Prop) : Stp F H S F' H' S :=
  ⟨g.ff, fun p o h _ => ⟨g.hh p o h, g.nf p o h⟩, fun p o h => ⟨o, g.hh p o h⟩, fun _ h => .inl h⟩
theorem upd_grow {F H : Hp} {p : Addr} {o : HO} (s : Same F H) (n : H p = none) : Grow F H (upd F p o) (upd H p o) where
  ff := fun b u h => by
    have hb : b ≠ p := fun z => by rw [z] at h; rw [s _ _ h] at n; cases n
    rw [upd_ne hb]; exact h
  hh := fun b u h => by rw [upd_ne (ne_of_none h n)]; exact h
  sub := fun b u h => by
    by_cases hb : b = p
    · subst hb; rw [upd_same] at h ⊢; exact h
    · rw [upd_ne hb] at h ⊢; exact s _ _ h
  nf := fun b u h z => by rw [upd_ne (ne_of_none h n)]; exact z
/-- only the heap grows -/
theorem upd_growH {F H : Hp} {p : Addr} {o : HO} (s : Same F H) (n : H p = none) : Grow F H F (upd H p o) where
  ff := Same.refl F
  hh := fun b u h => by rw [upd_ne (ne_of_none h n)]; exact h
  sub := fun b u h => by rw [upd_ne (ne_of_none (s _ _ h) n)]; exact s _ _ h
  nf := fun _ _ _ z => z
section
variable {c : Cn} {F H F' H' : Hp} {σ : St} {ρ : Env'}
theorem SlotR.grow {o : Option V} {s : SV} (g : Grow F H F' H') (h : SlotR c F H o s) : SlotR c F' H' o s := by
  cases s with
  | un => trivial
  | fz v => obtain ⟨w, e, r⟩ := h; exact ⟨w, e, r.mono g.ff⟩
  | ow xs => obtain ⟨p, vs, e, f, h, r⟩ := h; exact ⟨p, vs, e, g.nf _ _ h f, g.hh _ _ h, r.mono g.ff⟩
  | bx n => obtain ⟨p, vs, e, f, h, r⟩ := h; exact ⟨p, vs, e, g.nf _ _ h f, g.hh _ _ h, r⟩
theorem ER.grow (e : ER c F H σ ρ) (g : Grow F H F' H') : ER c F' H' σ ρ :=
  ⟨g.sub, e.len, fun i o s h1 h2 => (e.slot i o s h1 h2).grow g, e.dis⟩
theorem ER.fz (e : ER c F H σ ρ) {i : Nat} {v : PV} (h : ρ[i]? = some (.fz v)) : ∃ w, σ[i]? = some (some w) ∧ Rep c F w v := by
  have hi : i < σ.length := by rw [e.len]; exact (List.getElem?_eq_some_iff.mp h).1
  obtain ⟨w, q, r⟩ := e.slot i σ[i] _ (List.getElem?_eq_getElem hi) h
  exact ⟨w, by rw [List.getElem?_eq_getElem hi, q], r⟩
theorem ER.ow (e : ER c F H σ ρ) {i : Nat} {xs : List PV} (h : ρ[i]? = some (.ow xs)) : ∃ p vs, σ[i]? = some (some (.ref p)) ∧ F p = none ∧ H p = some (.lst vs) ∧ Reps c F vs xs := by
  have hi : i < σ.length := by rw [e.len]; exact (List.getElem?_eq_some_iff.mp h).1
  obtain ⟨p, vs, q, r⟩ := e.slot i σ[i] _ (List.getElem?_eq_getElem hi) h
  exact ⟨p, vs, by rw [List.getElem?_eq_getElem hi, q], r⟩
theorem ER.bx (e : ER c F H σ ρ) {i : Nat} {n : Nat} (h : ρ[i]? = some (.bx n)) : ∃ p vs, σ[i]? = some (some (.ref p)) ∧ F p = none ∧ H p = some (.lst vs) ∧ BoxOk n vs := by
  have hi : i < σ.length := by rw [e.len]; exact (List.getElem?_eq_some_iff.mp h).1
  obtain ⟨p, vs, q, r⟩ := e.slot i σ[i] _ (List.getElem?_eq_getElem hi) h
  exact ⟨p, vs, by rw [List.getElem?_eq_getElem hi, q], r⟩
theorem Own.tracked (e : ER c F H σ ρ) {p : Addr} (h : Own σ ρ p) : F p = none ∧ ∃ vs, H p = some (.lst vs) := by
  obtain ⟨i, s, h1, h2, h3⟩ := h
  have q := e.slot i _ s h1 h2
  cases s with
  | un => cases h3
  | fz v => cases h3
  | ow xs => obtain ⟨p', vs, e1, f, h, _⟩ := q; cases e1; exact ⟨f, vs, h⟩
  | bx n => obtain ⟨p', vs, e1, f, h, _⟩ := q; cases e1; exact ⟨f, vs, h⟩
end

/-! ### exceptions -/
structure Ex where
  k : Nat
  fs : List (Str × PV)
def ExD (c : Cn) (F H : Hp) (d : Option Addr) (fs : List (Str × PV)) : Prop := (∃ d' vs, d = some d' ∧ H d' = some (.xd vs) ∧ RepF c F vs fs) ∨ (d = none ∧ fs = [])

/-! ### the readings -/
abbrev XE' := Ex × Env'
/-- an expression as a program over the slots -/
abbrev GE := Env' → Wp XE' (PV × Env')
abbrev GT := Env' → Wp XE' (Bool × Env')
section
variable (c : Cn)
def StpE (σ : St) (ρ : Env') (F H : Hp) (ρ' : Env') (F' H' : Hp) : Prop := Stp F H (Own σ ρ) F' H' (Own σ ρ') ∧ ER c F' H' σ ρ'
def OkE (σ : St) (ρ : Env') (F H : Hp) (Q : VK) : PV × Env' → Prop := fun r => ∀ w F' H', StpE c σ ρ F H r.2 F' H' → Rep c F' w r.1 → Q w H'
def OkT (σ : St) (ρ : Env') (F H : Hp) (Q : Bool → Hp → Prop) : Bool × Env' → Prop := fun r => ∀ F' H', StpE c σ ρ F H r.2 F' H' → Q r.1 H'
def ErE (W : WX) (σ : St) (ρ : Env') (F H : Hp) : XE' → Prop := fun e => ∀ d F' H', StpE c σ ρ F H e.2 F' H' → ExD c F' H' d e.1.fs → W (.ref (c.cA e.1.k)) d σ H'
def tE (W : WX) (g : GE) : TE := fun σ H Q => ∃ ρ F, ER c F H σ ρ ∧ (g ρ).run (OkE c σ ρ F H Q) (ErE c W σ ρ F H)
def tT (W : WX) (g : GT) : TT := fun σ H Q => ∃ ρ F, ER c F H σ ρ ∧ (g ρ).run (OkT c σ ρ F H Q) (ErE c W σ ρ F H)
end

section
variable {c : Cn} {σ : St} {ρ ρ1 ρ2 : Env'} {F H F1 H1 F2 H2 : Hp} {W : WX} {Q : VK}
theorem StpE.refl (e : ER c F H σ ρ) : StpE c σ ρ F H ρ F H := ⟨Stp.refl _ _ _, e⟩
theorem StpE.trans (a : StpE c σ ρ F H ρ1 F1 H1) (b : StpE c σ ρ1 F1 H1 ρ2 F2 H2) : StpE c σ ρ F H ρ2 F2 H2 := ⟨a.1.trans b.1, b.2⟩
theorem Grow.stpE (e : ER c F H σ ρ) (g : Grow F H F1 H1) : StpE c σ ρ F H ρ F1 H1 := ⟨g.stp _, e.grow g⟩
theorem OkE.step {r : PV × Env'} (s : StpE c σ ρ F H ρ1 F1 H1) (h : OkE c σ ρ F H Q r) : OkE c σ ρ1 F1 H1 Q r := fun w F' H' q r => h w F' H' (s.trans q) r
theorem OkT.step {Q : Bool → Hp → Prop} {r : Bool × Env'} (s : StpE c σ ρ F H ρ1 F1 H1) (h : OkT c σ ρ F H Q r) : OkT c σ ρ1 F1 H1 Q r := fun F' H' q => h F' H' (s.trans q)
theorem ErE.step {r : XE'} (s : StpE c σ ρ F H ρ1 F1 H1) (h : ErE c W σ ρ F H r) : ErE c W σ ρ1 F1 H1 r := fun d F' H' q r => h d F' H' (s.trans q) r
theorem run_step {m : Wp XE' (PV × Env')} (s : StpE c σ ρ F H ρ1 F1 H1) (h : m.run (OkE c σ ρ F H Q) (ErE c W σ ρ F H)) : m.run (OkE c σ ρ1 F1 H1 Q) (ErE c W σ ρ1 F1 H1) :=
  m.mono (fun _ => OkE.step s) (fun _ => ErE.step s) h
theorem run_stepT {Q : Bool → Hp → Prop} {m : Wp XE' (Bool × Env')} (s : StpE c σ ρ F H ρ1 F1 H1) (h : m.run (OkT c σ ρ F H Q) (ErE c W σ ρ F H)) : m.run (OkT c σ ρ1 F1 H1 Q) (ErE c W σ ρ1 F1 H1) :=
  m.mono (fun _ => OkT.step s) (fun _ => ErE.step s) h
/-- the first part of a program is an expression's -/
theorem tE_bind {g : GE} {k : PV × Env' → Wp XE' α} {R : VK} {Z : α → Prop} (er : ER c F H σ ρ) (h : ((g ρ).bind k).run Z (ErE c W σ ρ F H))
    (hk : ∀ v ρ1 w F1 H1, StpE c σ ρ F H ρ1 F1 H1 → Rep c F1 w v → (k (v, ρ1)).run Z (ErE c W σ ρ1 F1 H1) → R w H1) : tE c W g σ H R :=
  ⟨ρ, F, er, (g ρ).mono (fun r h1 w F1 H1 st rep => hk r.1 r.2 w F1 H1 st rep ((k r).mono (fun _ z => z) (fun _ => ErE.step st) h1)) (fun _ z => z) h⟩
theorem tT_bind {g : GT} {k : Bool × Env' → Wp XE' α} {R : Bool → Hp → Prop} {Z : α → Prop} (er : ER c F H σ ρ) (h : ((g ρ).bind k).run Z (ErE c W σ ρ F H))
    (hk : ∀ v ρ1 F1 H1, StpE c σ ρ F H ρ1 F1 H1 → (k (v, ρ1)).run Z (ErE c W σ ρ1 F1 H1) → R v H1) : tT c W g σ H R :=
  ⟨ρ, F, er, (g ρ).mono (fun r h1 F1 H1 st => hk r.1 r.2 F1 H1 st ((k r).mono (fun _ z => z) (fun _ => ErE.step st) h1)) (fun _ z => z) h⟩
end

/-! ### weakening -/
section
variable {X : Cx}
theorem imp_PE {e : Expr} {t t' : TE} (h : PE X e t) (f : ∀ σ H Q, t' σ H Q → t σ H Q) : PE X e t' := ⟨fun pins s σ H Q I hw => h.run pins s σ H Q I (f σ H Q hw)⟩
theorem imp_PT {e : Expr} {t t' : TT} (h : PT X e t) (f : ∀ σ H Q, t' σ H Q → t σ H Q) : PT X e t' := ⟨fun pins s σ H Q I hw => h.run pins s σ H Q I (f σ H Q hw)⟩
theorem imp_PW {e : Expr} {t t' : TT} (h : PW X e t) (f : ∀ σ H Q, t' σ H Q → t σ H Q) : PW X e t' := ⟨fun wh pins s σ H Q I hw => h.run wh pins s σ H Q I (f σ H Q hw)⟩
theorem imp_PA {e : List Expr} {t t' : TA} (h : PA X e t) (f : ∀ σ H Q, t' σ H Q → t σ H Q) : PA X e t' := ⟨fun pos pins s σ H Q I hw => h.run pos pins s σ H Q I (f σ H Q hw)⟩
theorem imp_PS {e : Stmt} {t t' : TS} (h : PS X e t) (f : ∀ D σ H, t' D σ H → t D σ H) : PS X e t' := ⟨fun pins s σ H D I hw => h.run pins s σ H D I (f D σ H hw)⟩
theorem imp_PSs {e : List Stmt} {t t' : TS} (h : PSs X e t) (f : ∀ D σ H, t' D σ H → t D σ H) : PSs X e t' := ⟨fun pins s σ H D I hw => h.run pins s σ H D I (f D σ H hw)⟩
end
end VL

set_option Elab.async false
set_option linter.all false
set_option maxRecDepth 100000
set_option maxHeartbeats 1000000
/-! VL, part 2: expressions. -/
namespace VL
open PySem PySem.Spec PyProof.Rows L2

def lift (o : Option PV) (ρ : Env') : Wp XE' (PV × Env') := match o with
  | some v => .ret (v, ρ)
  | none => .stuck
@[simp] theorem lift_some (v : PV) (ρ : Env') : lift (some v) ρ = .ret (v, ρ) := (rfl)
@[simp] theorem lift_none (ρ : Env') : lift none ρ = .stuck := (rfl)
theorem lift_run {o : Option PV} {ρ : Env'} {K : PV × Env' → Prop} {E : XE' → Prop} (h : (lift o ρ).run K E) : ∃ v, o = some v ∧ K (v, ρ) := by
  cases o with
  | none => exact h.elim
  | some v => exact ⟨v, rfl, h⟩

def eVar (i : Nat) : GE := fun ρ => match ρ[i]? with
  | some (.fz v) => .ret (v, ρ)
  | _ => .stuck
def eC (v : PV) : GE := fun ρ => .ret (v, ρ)
def eOp1 (f : PV → Option PV) (g : GE) : GE := fun ρ => (g ρ).bind fun a => lift (f a.1) a.2
def eOp2 (f : PV → PV → Option PV) (g h : GE) : GE := fun ρ => (g ρ).bind fun a => (h a.2).bind fun b => lift (f a.1 b.1) b.2
def eAnd (g h : GE) : GE := fun ρ => (g ρ).bind fun a => match a.1 with
  | .bl true => h a.2
  | .bl false => .ret (.bl false, a.2)
  | _ => .stuck
def eOr (g h : GE) : GE := fun ρ => (g ρ).bind fun a => match a.1 with
  | .bl false => h a.2
  | .bl true => .ret (.bl true, a.2)
  | _ => .stuck
def eNot (g : GE) : GE := fun ρ => (g ρ).bind fun a => match a.1 with
  | .bl b => .ret (.bl (!b), a.2)
  | _ => .stuck
def eIf (t : GT) (g h : GE) : GE := fun ρ => (t ρ).bind fun a => if a.1 = true then g a.2 else h a.2
/-- a value's truth -/
def truth : PV → Option Bool
  | .non => some false
  | .bl b => some b
  | .int i => some (i != 0)
  | .str x => if x.length ≤ sizeLine then some ((x.length : Int) != 0) else none
  | .tup xs => some (!xs.isEmpty)
  | .lst _ xs => some (!xs.isEmpty)
  | .dic _ xs => some (!xs.isEmpty)
  | _ => none
def gVal (g : GE) : GT := fun ρ => (g ρ).bind fun a => match truth a.1 with
  | some b => .ret (b, a.2)
  | none => .stuck
/-- a test by a value that is a bool -/
def gBl (g : GE) : GT := fun ρ => (g ρ).bind fun a => match a.1 with
  | .bl b => .ret (b, a.2)
  | _ => .stuck
def gAnd (g h : GT) : GT := fun ρ => (g ρ).bind fun a => if a.1 = true then h a.2 else .ret (false, a.2)
def gOr (g h : GT) : GT := fun ρ => (g ρ).bind fun a => if a.1 = true then .ret (true, a.2) else h a.2
def gNot (g : GT) : GT := fun ρ => (g ρ).bind fun a => .ret (!a.1, a.2)

section
variable {c : Cn} {X : Cx} {W : WX} {e a b : Expr} {rest : List Expr} {pos : Pos} {g h ga gb : GE} {gt gu : GT}

theorem ve_var {i : Nat} (hp : PE X e (tVar i)) : PE X e (tE c W (eVar i)) := imp_PE hp fun σ H Q ⟨ρ, F, er, z⟩ => by
  unfold eVar at z
  split at z
  · rename_i v q
    obtain ⟨w, h1, h2⟩ := er.fz q
    exact ⟨w, h1, z w F H (StpE.refl er) h2⟩
  · exact z.elim
theorem ve_const {v : PV} {w : V} (hp : PE X e (tC w)) (r : ∀ F, Rep c F w v) : PE X e (tE c W (eC v)) := imp_PE hp fun σ H Q ⟨ρ, F, er, z⟩ => z w F H (StpE.refl er) (r F)
theorem ve_int {i j pos} : PE X (.Constant (.int i) j pos) (tE c W (eC (.int i))) := ve_const pe_int fun _ => .int i
theorem ve_bl {i j pos} : PE X (.Constant (.bool i) j pos) (tE c W (eC (.bl i))) := ve_const pe_bl fun _ => .bl i
theorem ve_non {j pos} : PE X (.Constant .none j pos) (tE c W (eC .non)) := ve_const pe_non fun _ => .non
theorem ve_str {x j pos} : PE X (.Constant (.str x) j pos) (tE c W (eC (.str x))) := ve_const pe_str fun _ => .str x
/-- a module's int -/
theorem ve_gint {x : Str} {i : Int} (hg : Gl X x) (hm : ∃ t, X.mg x = some (.int i t)) (hd : (x == ("__debug__" : Str)) = false := by decide) : PE X (.Name x pos) (tE c W (eC (.int i))) := by
  obtain ⟨t, hm⟩ := hm
  exact ve_const (pe_glob hg hm (v := .int i) ⟨t, rfl⟩ hd) fun _ => .int i

def Op1 (c : Cn) (f : PV → Option PV) (r : V → Hp → VK → Prop) : Prop := ∀ (F H : Hp) (x : V) (a v : PV) (Q : VK), Same F H → Rep c F x a → f a = some v →
  (∀ w F' H', Grow F H F' H' → Rep c F' w v → Q w H') → r x H Q
def Op2 (c : Cn) (f : PV → PV → Option PV) (r : R2) : Prop := ∀ (F H : Hp) (x y : V) (a b v : PV) (Q : VK), Same F H → Rep c F x a → Rep c F y b → f a b = some v →
  (∀ w F' H', Grow F H F' H' → Rep c F' w v → Q w H') → r x y H Q
theorem Op1.use {f : PV → Option PV} {r : V → Hp → VK → Prop} (hf : Op1 c f r) {σ : St} {H : Hp} {Q : VK} (z : tE c W (eOp1 f g) σ H Q) : tE c W g σ H fun x H1 => r x H1 Q := by
  obtain ⟨ρ, F, er, z⟩ := z
  refine tE_bind er z fun v ρ1 w F1 H1 st rep h1 => ?_
  obtain ⟨u, e, h1⟩ := lift_run h1
  exact hf F1 H1 w v u Q st.2.sub rep e fun w' F' H' gr r => h1 w' F' H' (st.trans (gr.stpE st.2)) r
theorem Op2.use {f : PV → PV → Option PV} {r : R2} (hf : Op2 c f r) {σ : St} {H : Hp} {Q : VK} (z : tE c W (eOp2 f ga gb) σ H Q) :
    tE c W ga σ H fun x H1 => tE c W gb σ H1 fun y H2 => r x y H2 Q := by
  obtain ⟨ρ, F, er, z⟩ := z
  refine tE_bind er z fun v ρ1 w F1 H1 st rep h1 => ?_
  refine tE_bind st.2 h1 fun u ρ2 y F2 H2 st2 rep2 h2 => ?_
  obtain ⟨q, e, h2⟩ := lift_run h2
  exact hf F2 H2 w y v u q Q st2.2.sub (rep.mono st2.1.ff) rep2 e fun w' F' H' gr r => h2 w' F' H' (st.trans (st2.trans (gr.stpE st2.2))) r

theorem ve_op {op : Operator} {r : R2} {f : PV → PV → Option PV} (ho : OpR X (binaryOp op) r) (hf : Op2 c f r) (ha : PE X a (tE c W ga)) (hb : PE X b (tE c W gb)) : PE X (.BinOp a op b pos) (tE c W (eOp2 f ga gb)) :=
  imp_PE (pe_op ho ha hb) fun _ _ _ z => hf.use z
theorem ve_un {op : UnaryOp} {r : V → Hp → VK → Prop} {f : PV → Option PV} (ho : UnR X (unaryOp op) r) (hf : Op1 c f r) (ha : PE X a (tE c W ga)) : PE X (.UnaryOp op a pos) (tE c W (eOp1 f ga)) :=
  imp_PE (pe_un ho ha) fun _ _ _ z => hf.use z
theorem ve_cmp {op : CmpOp} {r : R2} {f : PV → PV → Option PV} (ho : OpR X (compareOp op) r) (hf : Op2 c f r) (hm : behindInMarks op b = false) (ha : PE X a (tE c W ga)) (hb : PE X b (tE c W gb)) :
    PE X (.Compare a [op] [b] pos) (tE c W (eOp2 f ga gb)) := imp_PE (pe_cmpR ho ha hb hm) fun _ _ _ z => hf.use z

/-! ### tests -/
theorem gBl_use {σ : St} {H : Hp} {Q : Bool → Hp → Prop} (z : tT c W (gBl g) σ H Q) : tE c W g σ H fun x H1 => ∃ k, x = .bl k ∧ Q k H1 := by
  obtain ⟨ρ, F, er, z⟩ := z
  refine tE_bind er z fun v ρ1 w F1 H1 st rep h1 => ?_
  cases v with
  | bl b =>
    cases rep
    exact ⟨b, rfl, h1 F1 H1 st⟩
  | _ => exact h1.elim
theorem vt_cmp {op : CmpOp} {r : R2} {f : PV → PV → Option PV} (ho : OpR X (compareOp op) r) (hf : Op2 c f r) (hm : behindInMarks op b = false) (ha : PE X a (tE c W ga)) (hb : PE X b (tE c W gb)) :
    PT X (.Compare a [op] [b] pos) (tT c W (gBl (eOp2 f ga gb))) := imp_PT (pt_cmpR ho ha hb hm) fun σ H Q z => hf.use (W := W) (Q := fun x H' => ∃ k, x = .bl k ∧ Q k H') (gBl_use z)
theorem truth_ok {F H : Hp} {x : V} {v : PV} {b : Bool} (s : Same F H) (r : Rep c F x v) (e : truth v = some b) : TruV c.K x H b := by
  cases r with
  | non => cases e; rfl
  | bl k => cases e; rfl
  | int i => cases e; rfl
  | str y =>
    have e' : (if y.length ≤ sizeLine then some ((y.length : Int) != 0) else none) = some b := e
    by_cases h : y.length ≤ sizeLine
    · rw [if_pos h] at e'
      cases e'
      exact ⟨h, rfl⟩
    · rw [if_neg h] at e'
      cases e'
  | tup h r => cases e; exact .inr (.inl ⟨_, SqT.of (s _ _ h), by rw [r.isEmpty]⟩)
  | lst h r _ => cases e; exact .inl ⟨_, SqL.of (s _ _ h), by rw [r.isEmpty]⟩
  | dic h r _ =>
    cases e
    refine .inr (.inr ⟨_, s _ _ h, ?_⟩)
    cases r <;> rfl
  | ins h r => cases e
  | scr h => cases e
  | any v => cases e
theorem gVal_use {σ : St} {H : Hp} {Q : Bool → Hp → Prop} (z : tT c W (gVal g) σ H Q) : tE c W g σ H fun x H1 => ∃ k, TruV c.K x H1 k ∧ Q k H1 := by
  obtain ⟨ρ, F, er, z⟩ := z
  refine tE_bind er z fun v ρ1 w F1 H1 st rep h1 => ?_
  dsimp only at h1
  split at h1
  · rename_i k hk
    exact ⟨k, truth_ok st.2.sub rep hk, h1 F1 H1 st⟩
  · exact h1.elim
theorem vt_val (hk : c.K = X.K) (ha : PE X a (tE c W ga)) (he : ∀ whole, isTrue a X.env whole = (do let v ← whole; standAt a.pos; holding [v] (truthy v)) := by intro _; rfl) : PT X a (tT c W (gVal ga)) :=
  imp_PT (pt_truth ha he) fun σ H Q z => by
    have q := gVal_use z
    rw [hk] at q
    exact q
theorem vt_not (h : PT X a (tT c W gt)) : PT X (.UnaryOp .Not a pos) (tT c W (gNot gt)) := imp_PT (pt_not h) fun σ H Q ⟨ρ, F, er, z⟩ => tT_bind er z fun v ρ1 F1 H1 st h1 => h1 F1 H1 st
theorem vw_and1 (ha : PT X a (tT c W gt)) : PW X (.BoolOp .And [a] pos) (tT c W gt) := pw_and1 ha
theorem vw_or1 (ha : PT X a (tT c W gt)) : PW X (.BoolOp .Or [a] pos) (tT c W gt) := pw_or1 ha
theorem vw_and (ha : PT X a (tT c W gt)) (hb : PW X (.BoolOp .And (b :: rest) pos) (tT c W gu)) : PW X (.BoolOp .And (a :: b :: rest) pos) (tT c W (gAnd gt gu)) :=
  imp_PW (pw_and ha hb) fun σ H Q ⟨ρ, F, er, z⟩ => tT_bind er z fun v ρ1 F1 H1 st h1 => by
    cases v with
    | true => exact ⟨ρ1, F1, st.2, (gu ρ1).mono (fun r q => OkT.step st q) (fun _ q => q) h1⟩
    | false => exact h1 F1 H1 st
theorem vw_or (ha : PT X a (tT c W gt)) (hb : PW X (.BoolOp .Or (b :: rest) pos) (tT c W gu)) : PW X (.BoolOp .Or (a :: b :: rest) pos) (tT c W (gOr gt gu)) :=
  imp_PW (pw_or ha hb) fun σ H Q ⟨ρ, F, er, z⟩ => tT_bind er z fun v ρ1 F1 H1 st h1 => by
    cases v with
    | false => exact ⟨ρ1, F1, st.2, (gu ρ1).mono (fun r q => OkT.step st q) (fun _ q => q) h1⟩
    | true => exact h1 F1 H1 st

/-! ### and, or, not, if as values -/
theorem ve_one {op} (h : PE X a (tE c W g)) : PE X (.BoolOp op [a] pos) (tE c W g) := pe_one h
theorem ve_and (ha : PE X a (tE c W ga)) (hb : PE X (.BoolOp .And (b :: rest) pos) (tE c W gb)) : PE X (.BoolOp .And (a :: b :: rest) pos) (tE c W (eAnd ga gb)) :=
  imp_PE (pe_and ha hb) fun σ H Q ⟨ρ, F, er, z⟩ => tE_bind er z fun v ρ1 w F1 H1 st rep h1 => by
    cases v with
    | bl k =>
      cases rep
      refine ⟨k, rfl, ?_⟩
      cases k with
      | true => exact ⟨ρ1, F1, st.2, (gb ρ1).mono (fun r q => OkE.step st q) (fun _ q => q) h1⟩
      | false => exact h1 _ F1 H1 st (.bl false)
    | _ => exact h1.elim
theorem ve_or (ha : PE X a (tE c W ga)) (hb : PE X (.BoolOp .Or (b :: rest) pos) (tE c W gb)) : PE X (.BoolOp .Or (a :: b :: rest) pos) (tE c W (eOr ga gb)) :=
  imp_PE (pe_or ha hb) fun σ H Q ⟨ρ, F, er, z⟩ => tE_bind er z fun v ρ1 w F1 H1 st rep h1 => by
    cases v with
    | bl k =>
      cases rep
      refine ⟨k, rfl, ?_⟩
      cases k with
      | false => exact ⟨ρ1, F1, st.2, (gb ρ1).mono (fun r q => OkE.step st q) (fun _ q => q) h1⟩
      | true => exact h1 _ F1 H1 st (.bl true)
    | _ => exact h1.elim
theorem ve_not (ha : PE X a (tE c W ga)) : PE X (.UnaryOp .Not a pos) (tE c W (eNot ga)) :=
  imp_PE (pe_not ha) fun σ H Q ⟨ρ, F, er, z⟩ => tE_bind er z fun v ρ1 w F1 H1 st rep h1 => by
    cases v with
    | bl k =>
      cases rep
      exact ⟨k, rfl, h1 _ F1 H1 st (.bl _)⟩
    | _ => exact h1.elim
theorem ve_if {t : Expr} (ht : PT X t (tT c W gt)) (ha : PE X a (tE c W ga)) (hb : PE X b (tE c W gb)) : PE X (.IfExp t a b pos) (tE c W (eIf gt ga gb)) :=
  imp_PE (pe_ifExp ht ha hb) fun σ H Q ⟨ρ, F, er, z⟩ => tT_bind er z fun v ρ1 F1 H1 st h1 => by
    cases v with
    | true => exact ⟨ρ1, F1, st.2, (ga ρ1).mono (fun r q => OkE.step st q) (fun _ q => q) h1⟩
    | false => exact ⟨ρ1, F1, st.2, (gb ρ1).mono (fun r q => OkE.step st q) (fun _ q => q) h1⟩

/-! ### argument lists -/
abbrev GA := Env' → Wp XE' (List PV × Env')
def aNil : GA := fun ρ => .ret ([], ρ)
def aCons (g : GE) (h : GA) : GA := fun ρ => (g ρ).bind fun a => (h a.2).bind fun b => .ret (a.1 :: b.1, b.2)
def OkA (c : Cn) (n : Nat) (σ : St) (ρ : Env') (F H : Hp) (Q : List V → Hp → Prop) : List PV × Env' → Prop := fun r => ∀ ws F' H', StpE c σ ρ F H r.2 F' H' → Reps c F' ws r.1 → ws.length = n → Q ws H'
/-- n values, from the left -/
def tA (c : Cn) (W : WX) (n : Nat) (g : GA) : TA := fun σ H Q => ∃ ρ F, ER c F H σ ρ ∧ (g ρ).run (OkA c n σ ρ F H Q) (ErE c W σ ρ F H)
theorem tA_bind {α : Type} {n : Nat} {σ : St} {ρ : Env'} {F H : Hp} {g : GA} {k : List PV × Env' → Wp XE' α} {R : List V → Hp → Prop} {Z : α → Prop} (er : ER c F H σ ρ) (h : ((g ρ).bind k).run Z (ErE c W σ ρ F H))
    (hk : ∀ v ρ1 w F1 H1, StpE c σ ρ F H ρ1 F1 H1 → Reps c F1 w v → w.length = n → (k (v, ρ1)).run Z (ErE c W σ ρ1 F1 H1) → R w H1) : tA c W n g σ H R :=
  ⟨ρ, F, er, (g ρ).mono (fun r h1 w F1 H1 st rep hl => hk r.1 r.2 w F1 H1 st rep hl ((k r).mono (fun _ z => z) (fun _ => ErE.step st) h1)) (fun _ z => z) h⟩
theorem va_nil : PA X [] (tA c W 0 aNil) := imp_PA pa_nil fun σ H Q ⟨ρ, F, er, z⟩ => z [] F H (StpE.refl er) .nil rfl
theorem va_cons {es : List Expr} {n : Nat} {gr : GA} (ha : PE X a (tE c W ga)) (hr : PA X es (tA c W n gr)) (hs : starEach (a :: es) X.env = (false, eval a X.env) :: starEach es X.env := by rfl) : PA X (a :: es) (tA c W (n + 1) (aCons ga gr)) :=
  imp_PA (pa_cons ha hr hs) fun σ H Q ⟨ρ, F, er, z⟩ => tE_bind er z fun v ρ1 w F1 H1 st rep h1 =>
    tA_bind st.2 h1 fun u ρ2 y F2 H2 st2 rep2 hl h2 => h2 (w :: y) F2 H2 (st.trans st2) (.cons (rep.mono st2.1.ff) rep2) (by rw [List.length_cons, hl])

/-! ### displays: a new object -/
def eTup (g : GA) : GE := fun ρ => (g ρ).bind fun a => if a.1.length ≤ sizeLine then .ret (.tup a.1, a.2) else .stuck
theorem ve_tup {es : List Expr} {gr : GA} {k n : Nat} (h : PA X es (tA c W n gr)) : PE X (.Tuple es k pos) (tE c W (eTup gr)) :=
  imp_PE (pe_tup h) fun σ H Q ⟨ρ, F, er, z⟩ => tA_bind er z fun v ρ1 w F1 H1 st rep hl h1 => by
    by_cases hz : v.length ≤ sizeLine
    · dsimp only at h1
      rw [if_pos hz] at h1
      refine ⟨by rw [rep.length]; exact hz, fun p hp => ?_⟩
      have gr := upd_grow (o := .tup w) st.2.sub hp
      exact h1 _ _ _ (st.trans (gr.stpE st.2)) (.tup upd_same (rep.mono gr.ff))
    · dsimp only at h1
      rw [if_neg hz] at h1
      exact h1.elim
/-- a new list as a program: its items -/
abbrev GL := Env' → Wp XE' (List PV × Env')
/-- .. the list is new and nobody's -/
def OkL (c : Cn) (σ : St) (ρ : Env') (F H : Hp) (Q : VK) : List PV × Env' → Prop := fun r => ∀ p vs F' H', StpE c σ ρ F H r.2 F' H' → H p = none → F' p = none → H' p = some (.lst vs) → ¬ Own σ r.2 p → Reps c F' vs r.1 → Q (.ref p) H'
def tL (c : Cn) (W : WX) (g : GL) : TE := fun σ H Q => ∃ ρ F, ER c F H σ ρ ∧ (g ρ).run (OkL c σ ρ F H Q) (ErE c W σ ρ F H)
def eLst (g : GL) : GE := fun ρ => (g ρ).bind fun a => .ret (.lst none a.1, a.2)
/-- a list that is nobody's is frozen -/
theorem freeze_grow {F H : Hp} {p : Addr} {o : HO} (s : Same F H) (hF : F p = none) (hH : H p = some o) : Same F (upd F p o) ∧ Same (upd F p o) H := by
  refine ⟨fun b u h => ?_, fun b u h => ?_⟩
  · rw [upd_ne (ne_of_none h hF)]; exact h
  · by_cases hb : b = p
    · subst hb; rw [upd_same] at h; rw [hH]; exact h
    · rw [upd_ne hb] at h; exact s _ _ h
theorem freeze_slot {F H : Hp} {p : Addr} {ob : HO} {o : Option V} {s : SV} (hF : F p = none) (n : ∀ q, o = some (.ref q) → s.own = true → q ≠ p) (h : SlotR c F H o s) : SlotR c (upd F p ob) H o s := by
  have ff : Same F (upd F p ob) := fun b u h => by rw [upd_ne (ne_of_none h hF)]; exact h
  cases s with
  | un => trivial
  | fz v => obtain ⟨w, e, r⟩ := h; exact ⟨w, e, r.mono ff⟩
  | ow xs => obtain ⟨q, vs, e, f, h, r⟩ := h; exact ⟨q, vs, e, by rw [upd_ne (n q e rfl)]; exact f, h, r.mono ff⟩
  | bx k => obtain ⟨q, vs, e, f, h, r⟩ := h; exact ⟨q, vs, e, by rw [upd_ne (n q e rfl)]; exact f, h, r⟩
theorem freeze_er {F H : Hp} {σ : St} {ρ : Env'} {p : Addr} {ob : HO} (er : ER c F H σ ρ) (hF : F p = none) (hH : H p = some ob) (n : ¬ Own σ ρ p) : ER c (upd F p ob) H σ ρ :=
  ⟨(freeze_grow er.sub hF hH).2, er.len, fun i o s h1 h2 => freeze_slot hF (fun q e1 e2 e3 => n (by subst e3; exact ⟨i, s, by rw [h1, e1], h2, e2⟩)) (er.slot i o s h1 h2), er.dis⟩
theorem ve_lst {gl : GL} (h : PE X e (tL c W gl)) : PE X e (tE c W (eLst gl)) := imp_PE h fun σ H Q ⟨ρ, F, er, z⟩ =>
  ⟨ρ, F, er, (gl ρ).mono (fun r (q : OkE c σ ρ F H Q (.lst none r.1, r.2)) p vs F' H' st hn hF hH no rep => by
    have f := freeze_grow st.2.sub hF hH
    refine q (.ref p) (upd F' p (.lst vs)) H' ⟨⟨st.1.ff.trans f.1, fun b o h n => ?_, st.1.th, st.1.ow⟩, freeze_er st.2 hF hH no⟩ (.lst upd_same (rep.mono f.1) (fun _ z => nomatch z))
    obtain ⟨h1, h2⟩ := st.1.hh b o h n
    exact ⟨h1, fun z => by rw [upd_ne (ne_of_none h hn)]; exact h2 z⟩) (fun _ q => q) z⟩
def lDisp (g : GA) : GL := fun ρ => (g ρ).bind fun a => if a.1.length ≤ sizeLine then .ret a else .stuck
theorem not_own_new {F H : Hp} {σ : St} {ρ : Env'} {p : Addr} (er : ER c F H σ ρ) (h : H p = none) : ¬ Own σ ρ p := fun o => by
  obtain ⟨_, vs, q⟩ := Own.tracked er o
  rw [h] at q
  cases q
/-- a new list laid at p, from a state behind -/
theorem laidL {σ : St} {ρ ρ1 : Env'} {F H F1 H1 : Hp} {Q : VK} {p : Addr} {ws : List V} {v : List PV} (st : StpE c σ ρ F H ρ1 F1 H1) (q : OkL c σ ρ F H Q (v, ρ1)) (hp : H1 p = none) (r : Reps c F1 ws v) : Q (.ref p) (upd H1 p (.lst ws)) := by
  have gr := upd_growH (o := .lst ws) st.2.sub hp
  refine q p ws F1 _ (st.trans (gr.stpE st.2)) ?_ ?_ upd_same (not_own_new st.2 hp) r
  · cases e : H p with
    | none => rfl
    | some o => obtain ⟨o', e'⟩ := st.1.th p o e; rw [hp] at e'; cases e'
  · exact st.2.sub.free hp
theorem vl_disp {es : List Expr} {n : Nat} {gr : GA} (h : PA X es (tA c W n gr)) : PE X (.List es pos) (tL c W (lDisp gr)) :=
  imp_PE (pe_lst h) fun σ H Q ⟨ρ, F, er, z⟩ => tA_bind er z fun v ρ1 w F1 H1 st rep hl h1 => by
    by_cases hz : v.length ≤ sizeLine
    · dsimp only at h1
      rw [if_pos hz] at h1
      exact ⟨by rw [rep.length]; exact hz, fun p hp => laidL st h1 hp rep⟩
    · dsimp only at h1
      rw [if_neg hz] at h1
      exact h1.elim
/-- lists by operators on two values, one value -/
def lift' (o : Option (List PV)) (ρ : Env') : Wp XE' (List PV × Env') := match o with
  | some v => .ret (v, ρ)
  | none => .stuck
@[simp] theorem lift'_some (v : List PV) (ρ : Env') : lift' (some v) ρ = .ret (v, ρ) := (rfl)
theorem lift'_run {o : Option (List PV)} {ρ : Env'} {K : List PV × Env' → Prop} {E : XE' → Prop} (h : (lift' o ρ).run K E) : ∃ v, o = some v ∧ K (v, ρ) := by
  cases o with
  | none => exact h.elim
  | some v => exact ⟨v, rfl, h⟩
def lOp1 (f : PV → Option (List PV)) (g : GE) : GL := fun ρ => (g ρ).bind fun a => lift' (f a.1) a.2
def lOp2 (f : PV → PV → Option (List PV)) (g h : GE) : GL := fun ρ => (g ρ).bind fun a => (h a.2).bind fun b => lift' (f a.1 b.1) b.2
def Ol1 (c : Cn) (f : PV → Option (List PV)) (r : V → Hp → VK → Prop) : Prop := ∀ (F H : Hp) (x : V) (a : PV) (v : List PV) (Q : VK), Same F H → Rep c F x a → f a = some v →
  (∀ ws, Reps c F ws v → ∀ p, H p = none → Q (.ref p) (upd H p (.lst ws))) → r x H Q
def Ol2 (c : Cn) (f : PV → PV → Option (List PV)) (r : R2) : Prop := ∀ (F H : Hp) (x y : V) (a b : PV) (v : List PV) (Q : VK), Same F H → Rep c F x a → Rep c F y b → f a b = some v →
  (∀ ws, Reps c F ws v → ∀ p, H p = none → Q (.ref p) (upd H p (.lst ws))) → r x y H Q
theorem Ol1.use {f : PV → Option (List PV)} {r : V → Hp → VK → Prop} (hf : Ol1 c f r) {σ : St} {H : Hp} {Q : VK} (z : tL c W (lOp1 f g) σ H Q) : tE c W g σ H fun x H1 => r x H1 Q := by
  obtain ⟨ρ, F, er, z⟩ := z
  refine tE_bind er z fun v ρ1 w F1 H1 st rep h1 => ?_
  obtain ⟨u, e, h1⟩ := lift'_run h1
  exact hf F1 H1 w v u Q st.2.sub rep e fun ws r p hp => laidL st h1 hp r
theorem Ol2.use {f : PV → PV → Option (List PV)} {r : R2} (hf : Ol2 c f r) {σ : St} {H : Hp} {Q : VK} (z : tL c W (lOp2 f ga gb) σ H Q) :
    tE c W ga σ H fun x H1 => tE c W gb σ H1 fun y H2 => r x y H2 Q := by
  obtain ⟨ρ, F, er, z⟩ := z
  refine tE_bind er z fun v ρ1 w F1 H1 st rep h1 => ?_
  refine tE_bind st.2 h1 fun u ρ2 y F2 H2 st2 rep2 h2 => ?_
  obtain ⟨q, e, h2⟩ := lift'_run h2
  exact hf F2 H2 w y v u q Q st2.2.sub (rep.mono st2.1.ff) rep2 e fun ws r p hp => laidL (st.trans st2) h2 hp r
theorem vl_op {op : Operator} {r : R2} {f : PV → PV → Option (List PV)} (ho : OpR X (binaryOp op) r) (hf : Ol2 c f r) (ha : PE X a (tE c W ga)) (hb : PE X b (tE c W gb)) : PE X (.BinOp a op b pos) (tL c W (lOp2 f ga gb)) :=
  imp_PE (pe_op ho ha hb) fun _ _ _ z => hf.use z

/-! ### built-ins by name -/
section
variable {x : Str} {p : Pos} {id T : String} {r : List V → Hp → VK → Prop}
theorem ve_callB {f : PV → Option PV} (hc : CallR X (.builtin id) r) (hf : Op1 c f fun x => r [x]) (hg : Gl X x) (hm : X.mg x = none) (hv : bootBuiltins x = some (.builtin id)) (ha : PE X a (tE c W ga))
    (hn : x ≠ "__name__" := by decide) (hdb : (x == ("__debug__" : Str)) = false := by decide) (he : starEach [a] X.env = (false, eval a X.env) :: starEach [] X.env := by rfl) : PE X (.Call (.Name x p) [a] [] pos) (tE c W (eOp1 f ga)) :=
  imp_PE (pe_callB hc hg hm hv (pa_cons ha pa_nil he) hn hdb he) fun _ _ _ z => hf.use z
theorem ve_callTy {f : PV → Option PV} (hc : CallR X (.type T) r) (hf : Op1 c f fun x => r [x]) (hg : Gl X x) (hm : X.mg x = none) (hv : bootBuiltins x = some (.type T)) (ha : PE X a (tE c W ga))
    (hn : x ≠ "__name__" := by decide) (hdb : (x == ("__debug__" : Str)) = false := by decide) (he : starEach [a] X.env = (false, eval a X.env) :: starEach [] X.env := by rfl) : PE X (.Call (.Name x p) [a] [] pos) (tE c W (eOp1 f ga)) :=
  imp_PE (pe_callTy hc hg hm hv (pa_cons ha pa_nil he) hn hdb he) fun _ _ _ z => hf.use z
theorem ve_callB2 {f : PV → PV → Option PV} (hc : CallR X (.builtin id) r) (hf : Op2 c f fun x y => r [x, y]) (hg : Gl X x) (hm : X.mg x = none) (hv : bootBuiltins x = some (.builtin id)) (ha : PE X a (tE c W ga)) (hb : PE X b (tE c W gb))
    (hn : x ≠ "__name__" := by decide) (hdb : (x == ("__debug__" : Str)) = false := by decide) (he : starEach [a, b] X.env = (false, eval a X.env) :: starEach [b] X.env := by rfl) (he2 : starEach [b] X.env = (false, eval b X.env) :: starEach [] X.env := by rfl)
    (hpl : (backTo pos (starEach [b] X.env)).any (·.1) = false := by rfl) : PE X (.Call (.Name x p) [a, b] [] pos) (tE c W (eOp2 f ga gb)) :=
  imp_PE (pe_callB hc hg hm hv (pa_cons ha (pa_cons hb pa_nil he2) he) hn hdb he hpl) fun _ _ _ z => hf.use z
theorem vl_callTy {f : PV → Option (List PV)} (hc : CallR X (.type T) r) (hf : Ol1 c f fun x => r [x]) (hg : Gl X x) (hm : X.mg x = none) (hv : bootBuiltins x = some (.type T)) (ha : PE X a (tE c W ga))
    (hn : x ≠ "__name__" := by decide) (hdb : (x == ("__debug__" : Str)) = false := by decide) (he : starEach [a] X.env = (false, eval a X.env) :: starEach [] X.env := by rfl) : PE X (.Call (.Name x p) [a] [] pos) (tL c W (lOp1 f ga)) :=
  imp_PE (pe_callTy hc hg hm hv (pa_cons ha pa_nil he) hn hdb he) fun _ _ _ z => hf.use z
theorem vl_callB {f : PV → Option (List PV)} (hc : CallR X (.builtin id) r) (hf : Ol1 c f fun x => r [x]) (hg : Gl X x) (hm : X.mg x = none) (hv : bootBuiltins x = some (.builtin id)) (ha : PE X a (tE c W ga))
    (hn : x ≠ "__name__" := by decide) (hdb : (x == ("__debug__" : Str)) = false := by decide) (he : starEach [a] X.env = (false, eval a X.env) :: starEach [] X.env := by rfl) : PE X (.Call (.Name x p) [a] [] pos) (tL c W (lOp1 f ga)) :=
  imp_PE (pe_callB hc hg hm hv (pa_cons ha pa_nil he) hn hdb he) fun _ _ _ z => hf.use z
end

/-! ### subscripts -/
theorem ve_ix {r : R2} {f : PV → PV → Option PV} (ho : IxR X r) (hf : Op2 c f r) (ha : PE X a (tE c W ga)) (hb : PE X b (tE c W gb)) (hs : PlainIx b := by intro _ _; rfl) : PE X (.Subscript a b pos) (tE c W (eOp2 f ga gb)) :=
  imp_PE (pe_ix ho ha hb hs) fun _ _ _ z => hf.use z
/-- parts of a slice -/
abbrev GO := Env' → Wp XE' (Option Int × Env')
def oNone : GO := fun ρ => .ret (none, ρ)
def oSome (g : GE) : GO := fun ρ => (g ρ).bind fun a => match a.1 with
  | .int i => .ret (some i, a.2)
  | _ => .stuck
def OkO (c : Cn) (σ : St) (ρ : Env') (F H : Hp) (Q : Option Int → Hp → Prop) : Option Int × Env' → Prop := fun r => ∀ F' H', StpE c σ ρ F H r.2 F' H' → Q r.1 H'
def tO (c : Cn) (W : WX) (g : GO) : TO := fun σ H Q => ∃ ρ F, ER c F H σ ρ ∧ (g ρ).run (OkO c σ ρ F H Q) (ErE c W σ ρ F H)
theorem imp_PO {e : Option Expr} {t t' : TO} (h : PO X e t) (f : ∀ σ H Q, t' σ H Q → t σ H Q) : PO X e t' := ⟨fun pins s σ H Q I hw => h.run pins s σ H Q I (f σ H Q hw)⟩
theorem tO_bind {α : Type} {σ : St} {ρ : Env'} {F H : Hp} {g : GO} {k : Option Int × Env' → Wp XE' α} {R : Option Int → Hp → Prop} {Z : α → Prop} (er : ER c F H σ ρ) (h : ((g ρ).bind k).run Z (ErE c W σ ρ F H))
    (hk : ∀ v ρ1 F1 H1, StpE c σ ρ F H ρ1 F1 H1 → (k (v, ρ1)).run Z (ErE c W σ ρ1 F1 H1) → R v H1) : tO c W g σ H R :=
  ⟨ρ, F, er, (g ρ).mono (fun r h1 F1 H1 st => hk r.1 r.2 F1 H1 st ((k r).mono (fun _ z => z) (fun _ => ErE.step st) h1)) (fun _ z => z) h⟩
theorem vo_none : PO X none (tO c W oNone) := imp_PO po_none fun σ H Q ⟨ρ, F, er, z⟩ => z F H (StpE.refl er)
theorem vo_some (h : PE X a (tE c W ga)) : PO X (some a) (tO c W (oSome ga)) := imp_PO (po_some h) fun σ H Q ⟨ρ, F, er, z⟩ => tE_bind er z fun v ρ1 w F1 H1 st rep h1 => by
  cases v with
  | int i => cases rep; exact ⟨i, rfl, h1 F1 H1 st⟩
  | _ => exact h1.elim
def eSl (f : PV → Option Int → Option Int → Option PV) (g : GE) (l u : GO) : GE := fun ρ => (g ρ).bind fun a => (l a.2).bind fun i => (u i.2).bind fun j => lift (f a.1 i.1 j.1) j.2
def lSl (f : PV → Option Int → Option Int → Option (List PV)) (g : GE) (l u : GO) : GL := fun ρ => (g ρ).bind fun a => (l a.2).bind fun i => (u i.2).bind fun j => lift' (f a.1 i.1 j.1) j.2
def OpS (c : Cn) (f : PV → Option Int → Option Int → Option PV) (r : V → Option Int → Option Int → Hp → VK → Prop) : Prop := ∀ lo hi, Op1 c (fun a => f a lo hi) fun x => r x lo hi
def OlS (c : Cn) (f : PV → Option Int → Option Int → Option (List PV)) (r : V → Option Int → Option Int → Hp → VK → Prop) : Prop := ∀ lo hi, Ol1 c (fun a => f a lo hi) fun x => r x lo hi
theorem ve_slice {f : PV → Option Int → Option Int → Option PV} {r : V → Option Int → Option Int → Hp → VK → Prop} {lo hi : Option Expr} {p2 : Pos} {gl gu : GO} (hr : SlR X r) (hf : OpS c f r) (ha : PE X a (tE c W ga)) (hl : PO X lo (tO c W gl)) (hu : PO X hi (tO c W gu)) :
    PE X (.Subscript a (.Slice lo hi none p2) pos) (tE c W (eSl f ga gl gu)) := imp_PE (pe_slice hr ha hl hu) fun σ H Q ⟨ρ, F, er, z⟩ => by
  refine tE_bind er z fun v ρ1 w F1 H1 st rep h1 => tO_bind st.2 h1 fun i ρ2 F2 H2 st2 h2 => tO_bind st2.2 h2 fun j ρ3 F3 H3 st3 h3 => ?_
  obtain ⟨u, e, h3⟩ := lift_run h3
  exact hf i j F3 H3 w v u Q st3.2.sub (rep.mono (st2.trans st3).1.ff) e fun w' F' H' gr r => h3 w' F' H' (st.trans (st2.trans (st3.trans (gr.stpE st3.2)))) r
theorem vl_slice {f : PV → Option Int → Option Int → Option (List PV)} {r : V → Option Int → Option Int → Hp → VK → Prop} {lo hi : Option Expr} {p2 : Pos} {gl gu : GO} (hr : SlR X r) (hf : OlS c f r) (ha : PE X a (tE c W ga)) (hl : PO X lo (tO c W gl)) (hu : PO X hi (tO c W gu)) :
    PE X (.Subscript a (.Slice lo hi none p2) pos) (tL c W (lSl f ga gl gu)) := imp_PE (pe_slice hr ha hl hu) fun σ H Q ⟨ρ, F, er, z⟩ => by
  refine tE_bind er z fun v ρ1 w F1 H1 st rep h1 => tO_bind st.2 h1 fun i ρ2 F2 H2 st2 h2 => tO_bind st2.2 h2 fun j ρ3 F3 H3 st3 h3 => ?_
  obtain ⟨u, e, h3⟩ := lift'_run h3
  exact hf i j F3 H3 w v u Q st3.2.sub (rep.mono (st2.trans st3).1.ff) e fun ws r p hp => laidL (st.trans (st2.trans st3)) h3 hp r

/-! ### methods of built-in values -/
def MtOk (c : Cn) (T : String) (f : PV → List PV → Option PV) (r : V → List V → Hp → VK → Prop) : Prop := (∀ (F H : Hp) (x : V) (a : PV) , Same F H → Rep c F x a → (∃ xs v, f a xs = some v) → tyV c.K T x H) ∧
  ∀ (F H : Hp) (x : V) (ys : List V) (a v : PV) (xs : List PV) (Q : VK), Same F H → Rep c F x a → Reps c F ys xs → f a xs = some v → (∀ w F' H', Grow F H F' H' → Rep c F' w v → Q w H') → r x ys H Q
end
end VL

set_option Elab.async false
set_option linter.all false
set_option maxRecDepth 100000
set_option maxHeartbeats 1000000
/-! VL, part 3: the operations on trees. -/
namespace VL
open PySem PySem.Spec PyProof.Rows L2

/-! ### arithmetic -/
def pAdd : PV → PV → Option PV
  | .int i, .int j => some (.int (i + j))
  | .str x, .str y => if x.length + y.length ≤ sizeLine then some (.str (x ++ y)) else none
  | .tup xs, .tup ys => if xs.length + ys.length ≤ sizeLine then some (.tup (xs ++ ys)) else none
  | .lst _ xs, .lst _ ys => if xs.length + ys.length ≤ sizeLine then some (.lst none (xs ++ ys)) else none
  | _, _ => none
def pSub : PV → PV → Option PV
  | .int i, .int j => some (.int (i - j))
  | _, _ => none
def pMul : PV → PV → Option PV
  | .int i, .int j => if i.natAbs.log2 + j.natAbs.log2 < 1000000 then some (.int (i * j)) else none
  | .lst _ xs, .int k => if k < 9223372036854775808 ∧ -9223372036854775808 ≤ k ∧ xs.length * k.toNat ≤ sizeLine then some (.lst none (List.replicate k.toNat xs).flatten) else none
  | _, _ => none
def pFdiv : PV → PV → Option PV
  | .int i, .int j => if 0 < j ∧ j < 1073741824 then some (.int (i / j)) else none
  | _, _ => none
def pMod : PV → PV → Option PV
  | .int i, .int j => if 0 < j then some (.int (i % j)) else none
  | _, _ => none
def pPow : PV → PV → Option PV
  | .int i, .int j => if 0 ≤ j ∧ j ≤ 1000000 ∧ i.natAbs < 2 ^ 64 then some (.int (i ^ j.toNat)) else none
  | _, _ => none
def pNeg : PV → Option PV
  | .int i => some (.int (-i))
  | _ => none
def pLt : PV → PV → Option PV
  | .int i, .int j => some (.bl (decide (i < j)))
  | _, _ => none
def pLe : PV → PV → Option PV
  | .int i, .int j => some (.bl (decide (i ≤ j)))
  | _, _ => none
def pGt : PV → PV → Option PV
  | .int i, .int j => some (.bl (decide (j < i)))
  | _, _ => none
def pGe : PV → PV → Option PV
  | .int i, .int j => some (.bl (decide (j ≤ i)))
  | _, _ => none

section
variable {c : Cn} {X : Cx}
theorem of2I {f : PV → PV → Option PV} {r : R2} (h : ∀ (F H : Hp) (i j : Int) (v : PV) (Q : VK), Same F H → f (.int i) (.int j) = some v → (∀ w F' H', Grow F H F' H' → Rep c F' w v → Q w H') → r (.int i) (.int j) H Q)
    (hn : ∀ a b v, f a b = some v → ∃ i j, a = .int i ∧ b = .int j) : Op2 c f r := fun F H x y a b v Q s ra rb e q => by
  obtain ⟨i, j, rfl, rfl⟩ := hn a b v e
  cases ra
  cases rb
  exact h F H i j v Q s e q
theorem two_int {f : PV → PV → Option PV} (h : ∀ a b, (∀ i j, a = .int i → b = .int j → False) → f a b = none) : ∀ a b v, f a b = some v → ∃ i j, a = .int i ∧ b = .int j := fun a b v e => by
  by_cases q : ∃ i j, a = .int i ∧ b = .int j
  · exact q
  · rw [h a b fun i j e1 e2 => q ⟨i, j, e1, e2⟩] at e
    cases e
theorem o_sub : Op2 c pSub (rI0 fun i j => .int (i - j)) := of2I (fun F H i j v Q s e q => by
  cases e
  exact ⟨i, j, rfl, rfl, q _ F H (Grow.refl s) (.int _)⟩) fun a b v e => by
  unfold pSub at e
  split at e
  · exact ⟨_, _, rfl, rfl⟩
  · cases e
theorem o_fdiv : Op2 c pFdiv (rI CDiv fun i j => .int (i / j)) := of2I (fun F H i j v Q s e q => by
  simp only [pFdiv] at e
  by_cases h : 0 < j ∧ j < 1073741824
  · rw [if_pos h] at e
    cases e
    exact ⟨i, j, rfl, rfl, h, q _ F H (Grow.refl s) (.int _)⟩
  · rw [if_neg h] at e
    cases e) fun a b v e => by
  unfold pFdiv at e
  split at e
  · exact ⟨_, _, rfl, rfl⟩
  · cases e
theorem o_mod : Op2 c pMod (rI (fun _ j => 0 < j) fun i j => .int (i % j)) := of2I (fun F H i j v Q s e q => by
  simp only [pMod] at e
  by_cases h : 0 < j
  · rw [if_pos h] at e
    cases e
    exact ⟨i, j, rfl, rfl, h, q _ F H (Grow.refl s) (.int _)⟩
  · rw [if_neg h] at e
    cases e) fun a b v e => by
  unfold pMod at e
  split at e
  · exact ⟨_, _, rfl, rfl⟩
  · cases e
theorem o_pow : Op2 c pPow (rI CPow fun i j => .int (i ^ j.toNat)) := of2I (fun F H i j v Q s e q => by
  simp only [pPow] at e
  by_cases h : 0 ≤ j ∧ j ≤ 1000000 ∧ i.natAbs < 2 ^ 64
  · rw [if_pos h] at e
    cases e
    exact ⟨i, j, rfl, rfl, h, q _ F H (Grow.refl s) (.int _)⟩
  · rw [if_neg h] at e
    cases e) fun a b v e => by
  unfold pPow at e
  split at e
  · exact ⟨_, _, rfl, rfl⟩
  · cases e
theorem o_lt : Op2 c pLt (rI0 fun i j => .bl (decide (i < j))) := of2I (fun F H i j v Q s e q => by
  cases e
  exact ⟨i, j, rfl, rfl, q _ F H (Grow.refl s) (.bl _)⟩) fun a b v e => by
  unfold pLt at e
  split at e
  · exact ⟨_, _, rfl, rfl⟩
  · cases e
theorem o_le : Op2 c pLe (rI0 fun i j => .bl (decide (i ≤ j))) := of2I (fun F H i j v Q s e q => by
  cases e
  exact ⟨i, j, rfl, rfl, q _ F H (Grow.refl s) (.bl _)⟩) fun a b v e => by
  unfold pLe at e
  split at e
  · exact ⟨_, _, rfl, rfl⟩
  · cases e
theorem o_gt : Op2 c pGt (rI0 fun i j => .bl (decide (j < i))) := of2I (fun F H i j v Q s e q => by
  cases e
  exact ⟨i, j, rfl, rfl, q _ F H (Grow.refl s) (.bl _)⟩) fun a b v e => by
  unfold pGt at e
  split at e
  · exact ⟨_, _, rfl, rfl⟩
  · cases e
theorem o_ge : Op2 c pGe (rI0 fun i j => .bl (decide (j ≤ i))) := of2I (fun F H i j v Q s e q => by
  cases e
  exact ⟨i, j, rfl, rfl, q _ F H (Grow.refl s) (.bl _)⟩) fun a b v e => by
  unfold pGe at e
  split at e
  · exact ⟨_, _, rfl, rfl⟩
  · cases e
theorem o_neg : Op1 c pNeg (rU fun i => .int (-i)) := fun F H x a v Q s ra e q => by
  cases ra with
  | int i => cases e; exact ⟨i, rfl, q _ F H (Grow.refl s) (.int _)⟩
  | _ => cases e

/-- +: ints, texts, tuples, lists -/
def rAdd4 (K : PySem.W.Frag) : R2 := fun x y H Q => (rI0 fun i j => .int (i + j)) x y H Q ∨ ((∃ i j, x = .str i ∧ y = .str j ∧ i.length + j.length ≤ sizeLine ∧ Q (.str (i ++ j)) H) ∨ (rCatA K x y H Q ∨ rCat x y H Q))
theorem op_add4 : OpR X (binaryOp .Add) (rAdd4 X.K) := op_add.or (op_add_str.or (op_catA.or op_cat))
theorem o_add (hk : c.K = X.K) : Op2 c pAdd (rAdd4 X.K) := fun F H x y a b v Q s ra rb e q => by
  cases ra with
  | int i =>
    cases rb with
    | int j => cases e; exact .inl ⟨i, j, rfl, rfl, q _ F H (Grow.refl s) (.int _)⟩
    | _ => cases e
  | str i =>
    cases rb with
    | str j =>
      have e' : (if i.length + j.length ≤ sizeLine then some (PV.str (i ++ j)) else none) = some v := e
      by_cases h : i.length + j.length ≤ sizeLine
      · rw [if_pos h] at e'
        cases e'
        exact .inr (.inl ⟨i, j, rfl, rfl, h, q _ F H (Grow.refl s) (.str _)⟩)
      · rw [if_neg h] at e'
        cases e'
    | _ => cases e
  | @tup a1 vs xs h1 r1 =>
    cases rb with
    | @tup a2 ws ys h2 r2 =>
      have e' : (if xs.length + ys.length ≤ sizeLine then some (PV.tup (xs ++ ys)) else none) = some v := e
      by_cases h : xs.length + ys.length ≤ sizeLine
      · rw [if_pos h] at e'
        cases e'
        refine .inr (.inr (.inl ⟨a1, a2, vs, ws, rfl, rfl, SqT.of (s _ _ h1), SqT.of (s _ _ h2), by rw [r1.length, r2.length]; exact h, fun z => ?_, fun _ z => ?_, fun _ _ p hp => ?_⟩))
        · subst z
          cases r1
          exact q _ F H (Grow.refl s) (.tup h2 r2)
        · subst z
          cases r2
          exact q _ F H (Grow.refl s) (by rw [List.append_nil]; exact .tup h1 r1)
        · have gr := upd_grow (o := .tup (vs ++ ws)) s hp
          exact q _ _ _ gr (.tup upd_same ((r1.append r2).mono gr.ff))
      · rw [if_neg h] at e'
        cases e'
    | _ => cases e
  | @lst a1 vs g1 xs h1 r1 t1 =>
    cases rb with
    | @lst a2 ws g2 ys h2 r2 t2 =>
      have e' : (if xs.length + ys.length ≤ sizeLine then some (PV.lst none (xs ++ ys)) else none) = some v := e
      by_cases h : xs.length + ys.length ≤ sizeLine
      · rw [if_pos h] at e'
        cases e'
        refine .inr (.inr (.inr ⟨a1, a2, vs, ws, rfl, rfl, s _ _ h1, s _ _ h2, by rw [r1.length, r2.length]; exact h, fun p hp => ?_⟩))
        have gr := upd_grow (o := .lst (vs ++ ws)) s hp
        exact q _ _ _ gr (.lst upd_same ((r1.append r2).mono gr.ff) fun _ z => nomatch z)
      · rw [if_neg h] at e'
        cases e'
    | _ => cases e
  | _ => cases rb <;> cases e
/-- *: ints, a list times an int -/
def rMul2 : R2 := fun x y H Q => (rI CMulW fun i j => .int (i * j)) x y H Q ∨ rRep x y H Q
theorem op_mul2 : OpR X (binaryOp .Mult) rMul2 := op_mulW.or op_rep
theorem Reps.rep {F : Hp} {vs : List V} {xs : List PV} (r : Reps c F vs xs) : ∀ k : Nat, Reps c F (List.replicate k vs).flatten (List.replicate k xs).flatten
  | 0 => .nil
  | k + 1 => by
    rw [List.replicate_succ, List.replicate_succ, List.flatten_cons, List.flatten_cons]
    exact r.append (Reps.rep r k)
theorem o_mul : Op2 c pMul rMul2 := fun F H x y a b v Q s ra rb e q => by
  cases ra with
  | int i =>
    cases rb with
    | int j =>
      have e' : (if i.natAbs.log2 + j.natAbs.log2 < 1000000 then some (PV.int (i * j)) else none) = some v := e
      by_cases h : i.natAbs.log2 + j.natAbs.log2 < 1000000
      · rw [if_pos h] at e'
        cases e'
        exact .inl ⟨i, j, rfl, rfl, h, q _ F H (Grow.refl s) (.int _)⟩
      · rw [if_neg h] at e'
        cases e'
    | _ => cases e
  | @lst a1 vs g1 xs h1 r1 t1 =>
    cases rb with
    | int k =>
      have e' : (if k < 9223372036854775808 ∧ -9223372036854775808 ≤ k ∧ xs.length * k.toNat ≤ sizeLine then some (PV.lst none (List.replicate k.toNat xs).flatten) else none) = some v := e
      by_cases h : k < 9223372036854775808 ∧ -9223372036854775808 ≤ k ∧ xs.length * k.toNat ≤ sizeLine
      · rw [if_pos h] at e'
        cases e'
        refine .inr ⟨a1, k, vs, rfl, rfl, s _ _ h1, by have := h.2.1; omega, by have := h.1; omega, by rw [r1.length]; exact h.2.2, fun p hp => ?_⟩
        have gr := upd_grow (o := .lst (List.replicate k.toNat vs).flatten) s hp
        exact q _ _ _ gr (.lst upd_same ((r1.rep k.toNat).mono gr.ff) fun _ z => nomatch z)
      · rw [if_neg h] at e'
        cases e'
    | _ => cases e
  | _ => cases rb <;> cases e
end

/-! ### equality -/
mutual
def pvD : PV → Option PyData
  | .non => some .none
  | .bl b => some (.bool b)
  | .int i => some (.int i)
  | .str x => some (.str x)
  | .tup xs => (pvDs xs).map .tuple
  | .lst _ xs => (pvDs xs).map .list
  | .dic _ _ => none
  | .ins _ _ => none
  | .scr _ => none
  | .any => none
def pvDs : List PV → Option (List PyData)
  | [] => some []
  | x :: xs => (pvD x).bind fun d => (pvDs xs).map fun ds => d :: ds
end
def eqD (a b : PV) : Option Bool := match pvD a, pvD b with
  | some d, some e => if SeqAt.shaped d = true ∧ SeqAt.shaped e = true then some (PyData.eqv d e) else none
  | _, _ => none
def eqB : PV → PV → Option Bool
  | .non, .non => some true
  | .bl i, .bl j => some (decide (i = j))
  | .int i, .int j => some (decide (i = j))
  | .str i, .str j => some (decide (i = j))
  | .non, .int _ => some false
  | .int _, .non => some false
  | .non, .str _ => some false
  | .str _, .non => some false
  | .non, .bl _ => some false
  | .bl _, .non => some false
  | .int _, .str _ => some false
  | .str _, .int _ => some false
  | .bl _, .str _ => some false
  | .str _, .bl _ => some false
  | a, b => eqD a b
def pEq (a b : PV) : Option PV := (eqB a b).map .bl
def pNe (a b : PV) : Option PV := (eqB a b).map fun k => .bl (!k)
def rEq2 (K : PySem.W.Frag) : R2 := fun x y H Q => rEq x y H Q ∨ rEqD K x y H Q
def rNe2 (K : PySem.W.Frag) : R2 := fun x y H Q => rNe x y H Q ∨ rNeD K x y H Q
section
variable {c : Cn} {X : Cx}
mutual
theorem pvD_ok {F : Hp} : ∀ {w : V} {v : PV} {d : PyData}, Rep c F w v → pvD v = some d → Dp c.K F w d
  | _, _, _, .non, e => by simp only [pvD] at e; cases e; exact .non
  | _, _, _, .bl b, e => by simp only [pvD] at e; cases e; exact .bl b
  | _, _, _, .int i, e => by simp only [pvD] at e; cases e; exact .int i
  | _, _, _, .str x, e => by simp only [pvD] at e; cases e; exact .str x
  | _, _, _, .tup h r, e => by
    simp only [pvD] at e
    obtain ⟨ds, e1, rfl⟩ := Option.map_eq_some_iff.mp e
    exact .tup (SqT.of h) (pvDs_ok r e1)
  | _, _, _, .lst h r _, e => by
    simp only [pvD] at e
    obtain ⟨ds, e1, rfl⟩ := Option.map_eq_some_iff.mp e
    exact .lst (SqL.of h) (pvDs_ok r e1)
  | _, _, _, .dic _ _ _, e => by simp only [pvD] at e; cases e
  | _, _, _, .ins _ _, e => by simp only [pvD] at e; cases e
  | _, _, _, .scr _, e => by simp only [pvD] at e; cases e
  | _, _, _, .any _, e => by simp only [pvD] at e; cases e
theorem pvDs_ok {F : Hp} : ∀ {ws : List V} {vs : List PV} {ds : List PyData}, Reps c F ws vs → pvDs vs = some ds → DpAll c.K F ws ds
  | _, _, _, .nil, e => by simp only [pvDs] at e; cases e; exact .nil
  | _, _, _, .cons h r, e => by
    simp only [pvDs] at e
    obtain ⟨d, e1, e2⟩ := Option.bind_eq_some_iff.mp e
    obtain ⟨ds, e3, rfl⟩ := Option.map_eq_some_iff.mp e2
    exact .cons (pvD_ok h e1) (pvDs_ok r e3)
end
theorem eqB_ok {F H : Hp} {x y : V} {a b : PV} {k : Bool} (s : Same F H) (ra : Rep c F x a) (rb : Rep c F y b) (e : eqB a b = some k) :
    (scal x y = true ∧ decide (x = y) = k) ∨ ∃ d d', Dp c.K H x d ∧ Dp c.K H y d' ∧ SeqAt.shaped d = true ∧ SeqAt.shaped d' = true ∧ PyData.eqv d d' = k := by
  have go : eqD a b = some k → (scal x y = true ∧ decide (x = y) = k) ∨ ∃ d d', Dp c.K H x d ∧ Dp c.K H y d' ∧ SeqAt.shaped d = true ∧ SeqAt.shaped d' = true ∧ PyData.eqv d d' = k := fun e => by
    unfold eqD at e
    split at e
    · rename_i d d' h1 h2
      split at e
      · rename_i hs
        cases e
        exact .inr ⟨d, d', pvD_ok (ra.mono s) h1, pvD_ok (rb.mono s) h2, hs.1, hs.2, rfl⟩
      · cases e
    · cases e
  cases ra <;> cases rb <;> first
    | exact go e
    | (refine .inl ⟨rfl, ?_⟩; cases e; simp)
theorem o_eq (hk : c.K = X.K) : Op2 c pEq (rEq2 X.K) := fun F H x y a b v Q s ra rb e q => by
  obtain ⟨k, e1, rfl⟩ := Option.map_eq_some_iff.mp e
  have z := q _ F H (Grow.refl s) (.bl k)
  rw [← hk]
  rcases eqB_ok s ra rb e1 with ⟨h1, h2⟩ | ⟨d, d', h1, h2, h3, h4, h5⟩
  · exact .inl ⟨h1, by rw [h2]; exact z⟩
  · exact .inr ⟨d, d', h1, h2, h3, h4, by rw [h5]; exact z⟩
theorem o_ne (hk : c.K = X.K) : Op2 c pNe (rNe2 X.K) := fun F H x y a b v Q s ra rb e q => by
  obtain ⟨k, e1, rfl⟩ := Option.map_eq_some_iff.mp e
  have z := q _ F H (Grow.refl s) (.bl (!k))
  rw [← hk]
  rcases eqB_ok s ra rb e1 with ⟨h1, h2⟩ | ⟨d, d', h1, h2, h3, h4, h5⟩
  · exact .inl ⟨h1, by rw [h2]; exact z⟩
  · exact .inr ⟨d, d', h1, h2, h3, h4, by rw [h5]; exact z⟩
theorem op_eq2 (hu : X.A.units + 64 < cLine) : OpR X (compareOp .Eq) (rEq2 X.K) := op_eq.or (op_eqD hu)
theorem op_ne2 (hu : X.A.units + 64 < cLine) : OpR X (compareOp .NotEq) (rNe2 X.K) := op_ne.or (op_neD hu)
end

/-! ### is -/
def pIs : PV → PV → Option PV
  | .any, _ => none
  | a, .non => some (.bl (match a with | .non => true | _ => false))
  | .bl i, .bl j => some (.bl (decide (i = j)))
  | _, _ => none
def pIsNot : PV → PV → Option PV
  | .any, _ => none
  | a, .non => some (.bl (match a with | .non => false | _ => true))
  | .bl i, .bl j => some (.bl (!decide (i = j)))
  | _, _ => none
section
variable {c : Cn} {X : Cx}
def rIs2 : R2 := fun x y H Q => (y = .non ∧ Q (.bl (decide (x = .non))) H) ∨ rIsB x y H Q
def rIsNot2 : R2 := fun x y H Q => (y = .non ∧ Q (.bl (!decide (x = .non))) H) ∨ rNotB x y H Q
theorem op_is2 : OpR X (compareOp .Is) rIs2 := op_isN.or op_isBl
theorem op_isNot2 : OpR X (compareOp .IsNot) rIsNot2 := op_notN.or op_notBl
theorem o_is : Op2 c pIs rIs2 := fun F H x y a b v Q s ra rb e q => by
  cases rb with
  | non =>
    refine .inl ⟨rfl, ?_⟩
    cases ra <;> first | (cases e; exact q _ F H (Grow.refl s) (.bl _)) | cases e
  | bl j =>
    cases ra with
    | bl i => cases e; exact .inr ⟨i, j, rfl, rfl, q _ F H (Grow.refl s) (.bl _)⟩
    | _ => cases e
  | _ => cases ra <;> cases e
theorem o_isNot : Op2 c pIsNot rIsNot2 := fun F H x y a b v Q s ra rb e q => by
  cases rb with
  | non =>
    refine .inl ⟨rfl, ?_⟩
    cases ra <;> first | (cases e; exact q _ F H (Grow.refl s) (.bl _)) | cases e
  | bl j =>
    cases ra with
    | bl i => cases e; exact .inr ⟨i, j, rfl, rfl, q _ F H (Grow.refl s) (.bl _)⟩
    | _ => cases e
  | _ => cases ra <;> cases e
end

/-! ### len, abs, int, max, min, sum, all, any, tuple, list, str -/
def pLen : PV → Option PV
  | .str x => if x.length ≤ sizeLine then some (.int x.length) else none
  | .tup xs => some (.int xs.length)
  | .lst _ xs => some (.int xs.length)
  | .dic _ xs => some (.int xs.length)
  | .scr ns => some (.int ns.length)
  | _ => none
def pAbs : PV → Option PV
  | .int i => some (.int (if i < 0 then -i else i))
  | _ => none
def pInt : PV → Option PV
  | .int i => some (.int i)
  | .bl b => some (.int (if b then 1 else 0))
  | _ => none
def pMax2 : PV → PV → Option PV
  | .int i, .int j => some (.int (if j > i then j else i))
  | _, _ => none
def pMin2 : PV → PV → Option PV
  | .int i, .int j => some (.int (if j < i then j else i))
  | _, _ => none
def intsOf : List PV → Option (List Int)
  | [] => some []
  | .int i :: xs => (intsOf xs).map fun ns => i :: ns
  | _ :: _ => none
def blsOf : List PV → Option (List Bool)
  | [] => some []
  | .bl i :: xs => (blsOf xs).map fun ns => i :: ns
  | _ :: _ => none
def strsOf : List PV → Option (List Str)
  | [] => some []
  | .str i :: xs => (strsOf xs).map fun ns => i :: ns
  | _ :: _ => none
def pSum : PV → Option PV
  | .lst _ xs => (intsOf xs).map fun ns => .int ns.sum
  | _ => none
def pAll : PV → Option PV
  | .lst _ xs => (blsOf xs).map fun ns => .bl (ns.all id)
  | _ => none
def pAny : PV → Option PV
  | .lst _ xs => (blsOf xs).map fun ns => .bl (ns.any id)
  | _ => none
def pTuple : PV → Option PV
  | .lst _ xs => some (.tup xs)
  | .tup xs => some (.tup xs)
  | _ => none
def lList : PV → Option (List PV)
  | .lst _ xs => some xs
  | .tup xs => some xs
  | .scr ns => some (ns.map .int)
  | _ => none
def pStr : PV → Option PV
  | .int i => if i.natAbs.log2 < 1920 then some (.str (toString i)) else none
  | _ => none
section
variable {c : Cn} {X : Cx}
theorem intsOf_ok {F : Hp} : ∀ {ws : List V} {vs : List PV} {ns : List Int}, Reps c F ws vs → intsOf vs = some ns → ws = ns.map V.int
  | _, _, _, .nil, e => by cases e; rfl
  | _, _, _, .cons h r, e => by
    cases h with
    | int i =>
      obtain ⟨ms, e1, rfl⟩ := Option.map_eq_some_iff.mp e
      rw [intsOf_ok r e1]
      rfl
    | _ => cases e
theorem blsOf_ok {F : Hp} : ∀ {ws : List V} {vs : List PV} {ns : List Bool}, Reps c F ws vs → blsOf vs = some ns → ws = ns.map V.bl
  | _, _, _, .nil, e => by cases e; rfl
  | _, _, _, .cons h r, e => by
    cases h with
    | bl i =>
      obtain ⟨ms, e1, rfl⟩ := Option.map_eq_some_iff.mp e
      rw [blsOf_ok r e1]
      rfl
    | _ => cases e
theorem strsOf_ok {F : Hp} : ∀ {ws : List V} {vs : List PV} {ns : List Str}, Reps c F ws vs → strsOf vs = some ns → ws = ns.map V.str
  | _, _, _, .nil, e => by cases e; rfl
  | _, _, _, .cons h r, e => by
    cases h with
    | str i =>
      obtain ⟨ms, e1, rfl⟩ := Option.map_eq_some_iff.mp e
      rw [strsOf_ok r e1]
      rfl
    | _ => cases e
def rLen (K : PySem.W.Frag) : List V → Hp → VK → Prop := fun xs H Q => (∃ x n, xs = [x] ∧ LenV K x H n ∧ Q (.int n) H) ∨ ∃ d kvs, xs = [.ref d] ∧ Rd H d (.dK kvs) ∧ Q (.int kvs.length) H
theorem call_len2 : CallR X (.builtin "len") (rLen X.K) := call_len.or fun pins s σ H xs us Q I r h => by
  obtain ⟨d, kvs, rfl, e, q⟩ := h
  rw [Vals.ref1 r]
  exact d_len I e fun t s' J => ⟨.int kvs.length, H, J, ⟨t, rfl⟩, q⟩
theorem o_len (hk : c.K = X.K) : Op1 c pLen fun x => rLen X.K [x] := fun F H x a v Q s ra e q => by
  rw [← hk]
  cases ra with
  | str y =>
    have e' : (if y.length ≤ sizeLine then some (PV.int y.length) else none) = some v := e
    by_cases h : y.length ≤ sizeLine
    · rw [if_pos h] at e'
      cases e'
      exact .inl ⟨_, _, rfl, ⟨h, rfl⟩, q _ F H (Grow.refl s) (.int _)⟩
    · rw [if_neg h] at e'
      cases e'
  | tup h r => cases e; exact .inl ⟨_, _, rfl, .inr ⟨_, SqT.of (s _ _ h), rfl⟩, by rw [r.length]; exact q _ F H (Grow.refl s) (.int _)⟩
  | lst h r _ => cases e; exact .inl ⟨_, _, rfl, .inl ⟨_, SqL.of (s _ _ h), rfl⟩, by rw [r.length]; exact q _ F H (Grow.refl s) (.int _)⟩
  | scr h => cases e; exact .inl ⟨_, _, rfl, .inl ⟨_, s.seq h, rfl⟩, by rw [List.length_map]; exact q _ F H (Grow.refl s) (.int _)⟩
  | dic h r _ => cases e; exact .inr ⟨_, _, rfl, .inl (s _ _ h), by rw [r.length]; exact q _ F H (Grow.refl s) (.int _)⟩
  | _ => cases e
theorem o_abs : Op1 c pAbs fun x => (fun xs H Q => ∃ i, xs = [V.int i] ∧ Q (.int (if i < 0 then -i else i)) H) [x] := fun F H x a v Q s ra e q => by
  cases ra with
  | int i => cases e; exact ⟨i, rfl, q _ F H (Grow.refl s) (.int _)⟩
  | _ => cases e
theorem o_int : Op1 c pInt fun x => (fun xs H Q => (∃ i, xs = [V.int i] ∧ Q (.int i) H) ∨ ∃ k, xs = [V.bl k] ∧ Q (.int (if k then 1 else 0)) H) [x] := fun F H x a v Q s ra e q => by
  cases ra with
  | int i => cases e; exact .inl ⟨i, rfl, q _ F H (Grow.refl s) (.int _)⟩
  | bl i => cases e; exact .inr ⟨i, rfl, q _ F H (Grow.refl s) (.int _)⟩
  | _ => cases e
theorem o_max2 : Op2 c pMax2 fun x y => (fun xs H Q => ∃ i j, xs = [V.int i, V.int j] ∧ Q (.int (if j > i then j else i)) H) [x, y] := of2I (fun F H i j v Q s e q => by
  cases e
  exact ⟨i, j, rfl, q _ F H (Grow.refl s) (.int _)⟩) fun a b v e => by
  unfold pMax2 at e
  split at e
  · exact ⟨_, _, rfl, rfl⟩
  · cases e
theorem o_min2 : Op2 c pMin2 fun x y => (fun xs H Q => ∃ i j, xs = [V.int i, V.int j] ∧ Q (.int (if j < i then j else i)) H) [x, y] := of2I (fun F H i j v Q s e q => by
  cases e
  exact ⟨i, j, rfl, q _ F H (Grow.refl s) (.int _)⟩) fun a b v e => by
  unfold pMin2 at e
  split at e
  · exact ⟨_, _, rfl, rfl⟩
  · cases e
theorem o_sum (hk : c.K = X.K) : Op1 c pSum fun x => rSum X.K [x] := fun F H x a v Q s ra e q => by
  cases ra with
  | lst h r _ =>
    obtain ⟨ns, e1, rfl⟩ := Option.map_eq_some_iff.mp e
    have ew := intsOf_ok r e1
    subst ew
    exact ⟨_, ns, rfl, SqL.of (s _ _ h), q _ F H (Grow.refl s) (.int _)⟩
  | _ => cases e
theorem o_all (hk : c.K = X.K) : Op1 c pAll fun x => rAll X.K [x] := fun F H x a v Q s ra e q => by
  cases ra with
  | lst h r _ =>
    obtain ⟨ns, e1, rfl⟩ := Option.map_eq_some_iff.mp e
    have ew := blsOf_ok r e1
    subst ew
    exact ⟨_, ns, rfl, SqL.of (s _ _ h), q _ F H (Grow.refl s) (.bl _)⟩
  | _ => cases e
theorem o_any (hk : c.K = X.K) : Op1 c pAny fun x => rAny X.K [x] := fun F H x a v Q s ra e q => by
  cases ra with
  | lst h r _ =>
    obtain ⟨ns, e1, rfl⟩ := Option.map_eq_some_iff.mp e
    have ew := blsOf_ok r e1
    subst ew
    exact ⟨_, ns, rfl, SqL.of (s _ _ h), q _ F H (Grow.refl s) (.bl _)⟩
  | _ => cases e
def rTupOf (K : PySem.W.Frag) : List V → Hp → VK → Prop := fun xs H Q => ∃ p ys, xs = [.ref p] ∧ ((SqL K H p ys ∧ ∀ l, H l = none → Q (.ref l) (upd H l (.tup ys))) ∨ (SqT K H p ys ∧ Q (.ref p) H))
theorem call_tuple2 : CallR X (.type "tuple") (rTupOf X.K) := call_tuple_of
theorem o_tuple (hk : c.K = X.K) : Op1 c pTuple fun x => rTupOf X.K [x] := fun F H x a v Q s ra e q => by
  cases ra with
  | @lst a vs g xs h r _ =>
    cases e
    refine ⟨_, _, rfl, .inl ⟨SqL.of (s _ _ h), fun p hp => ?_⟩⟩
    have gr := upd_grow (o := .tup vs) s hp
    exact q _ _ _ gr (.tup upd_same (r.mono gr.ff))
  | tup h r => cases e; exact ⟨_, _, rfl, .inr ⟨SqT.of (s _ _ h), q _ F H (Grow.refl s) (.tup h r)⟩⟩
  | _ => cases e
def rLstOf (K : PySem.W.Frag) : List V → Hp → VK → Prop := fun xs H Q => ∃ p ys, xs = [.ref p] ∧ (SqL K H p ys ∨ SqT K H p ys) ∧ ∀ l, H l = none → Q (.ref l) (upd H l (.lst ys))
theorem call_list2 : CallR X (.type "list") (rLstOf X.K) := call_list_of
theorem o_list (hk : c.K = X.K) : Ol1 c lList fun x => rLstOf X.K [x] := fun F H x a v Q s ra e q => by
  rw [← hk]
  cases ra with
  | lst h r _ => cases e; exact ⟨_, _, rfl, .inl (SqL.of (s _ _ h)), fun p hp => q _ r p hp⟩
  | tup h r => cases e; exact ⟨_, _, rfl, .inr (SqT.of (s _ _ h)), fun p hp => q _ r p hp⟩
  | scr h => cases e; exact ⟨_, _, rfl, .inl (s.seq h), fun p hp => q _ (Reps.ofInts _) p hp⟩
  | _ => cases e
theorem o_str : Op1 c pStr fun x => (fun xs H Q => ∃ i, xs = [V.int i] ∧ i.natAbs.log2 < 1920 ∧ Q (.str (toString i)) H) [x] := fun F H x a v Q s ra e q => by
  cases ra with
  | int i =>
    have e' : (if i.natAbs.log2 < 1920 then some (PV.str (toString i)) else none) = some v := e
    by_cases h : i.natAbs.log2 < 1920
    · rw [if_pos h] at e'
      cases e'
      exact ⟨i, rfl, h, q _ F H (Grow.refl s) (.str _)⟩
    · rw [if_neg h] at e'
      cases e'
  | _ => cases e
end

/-! ### subscripts, slices -/
def valP (kvs : List (Key × PV)) (k : Key) : Option PV := (kvs.find? fun kv => decide (kv.1 = k)).map (·.2)
def keyP : PV → Option Key
  | .int i => some (.inl i)
  | .str x => some (.inr x)
  | _ => none
def pIx : PV → PV → Option PV
  | .tup xs, .int i => atI xs i
  | .lst _ xs, .int i => atI xs i
  | .scr ns, .int i => (atI ns i).map .int
  | .str z, .int i => if z.length ≤ sizeLine then (atI z.cps.toList i).map fun k => .str ⟨#[k]⟩ else none
  | .dic _ kvs, k => (keyP k).bind fun k => valP kvs k
  | _, _ => none
def cutP {α : Type} (xs : List α) (lo hi : Option Int) : List α := (xs.drop (HT.sIx xs.length 0 lo)).take (HT.sIx xs.length xs.length hi - HT.sIx xs.length 0 lo)
def pSl (x : PV) (lo hi : Option Int) : Option PV := match x with
  | .tup xs => some (.tup (cutP xs lo hi))
  | .lst _ xs => some (.lst none (cutP xs lo hi))
  | .scr ns => some (.lst none ((cutP ns lo hi).map .int))
  | .str z => if z.length ≤ sizeLine then some (.str (Txt.slice z lo hi)) else none
  | _ => none
def lSlice (x : PV) (lo hi : Option Int) : Option (List PV) := match x with
  | .lst _ xs => some (cutP xs lo hi)
  | .scr ns => some ((cutP ns lo hi).map .int)
  | _ => none
section
variable {c : Cn} {X : Cx}
theorem atI_len {α β : Type} {xs : List α} {ys : List β} {i : Int} {y : β} (e : ys.length = xs.length) (h : atI ys i = some y) : ∃ j, ixN xs.length i = some j ∧ ys[j]? = some y := by
  unfold atI at h
  obtain ⟨j, h1, h2⟩ := Option.bind_eq_some_iff.mp h
  exact ⟨j, by rw [← e]; exact h1, h2⟩
theorem Reps.atI {F : Hp} {vs : List V} {xs : List PV} {i : Int} {x : PV} (r : Reps c F vs xs) (h : atI xs i = some x) : ∃ v, L2.atI vs i = some v ∧ Rep c F v x := by
  obtain ⟨j, h1, h2⟩ := atI_len (xs := vs) r.length.symm h
  obtain ⟨v, h3, h4⟩ := r.get h2
  exact ⟨v, by unfold L2.atI; rw [h1]; exact h3, h4⟩
theorem RepD.val {F : Hp} {k : Key} {x : PV} : ∀ {vs : List (Key × V)} {xs : List (Key × PV)}, RepD c F vs xs → valP xs k = some x → ∃ v, valV vs k = some v ∧ Rep c F v x
  | _, _, .nil, e => by cases e
  | _, _, .cons (k := k') h r, e => by
    unfold valP at e
    by_cases q : k' = k
    · rw [List.find?_cons_of_pos (by simp [q])] at e
      cases e
      exact ⟨_, valV_pos q, h⟩
    · rw [List.find?_cons_of_neg (by simp [q])] at e
      obtain ⟨v, h1, h2⟩ := RepD.val r e
      exact ⟨v, by rw [valV_neg q]; exact h1, h2⟩
theorem keyP_ok {F : Hp} {w : V} {v : PV} {k : Key} (r : Rep c F w v) (e : keyP v = some k) : w = kV k := by
  cases r <;> first | (cases e; rfl) | cases e
def rIxD2 : R2 := fun x y H Q => ∃ a v, x = .ref a ∧ DGet H a y (some v) ∧ Q v H
theorem ix_dict (hu : X.A.units + 1 < cLine) : IxR X rIxD2 := by
  intro value slice pins s σ H x y v u Q I rx ry h
  obtain ⟨a, z, rfl, g, q⟩ := h
  obtain rfl : v = Value.ref a := rx
  exact fun hs => tail_any (dict_typeIs I g) PySem.F.slot_dict_getitem.lookup (d_getItem hu I g ry fun w' s' J r => ⟨z, H, J, r, q⟩) hs
def rIx4 (K : PySem.W.Frag) : R2 := fun x y H Q => rIx K x y H Q ∨ rIxD2 x y H Q
theorem ix_4 (hu : X.A.units + 1 < cLine) : IxR X (rIx4 X.K) := ix_seq.or (ix_dict hu)
theorem atI_map {α β : Type} (f : α → β) {xs : List α} {i : Int} {x : α} (h : L2.atI xs i = some x) : L2.atI (xs.map f) i = some (f x) := by
  unfold L2.atI at h ⊢
  obtain ⟨j, h1, h2⟩ := Option.bind_eq_some_iff.mp h
  rw [List.length_map, h1]
  show (xs.map f)[j]? = _
  rw [List.getElem?_map, h2]
  rfl
theorem o_ix (hk : c.K = X.K) : Op2 c pIx (rIx4 X.K) := fun F H x y a b v Q s ra rb e q => by
  rw [← hk]
  cases ra with
  | tup h r =>
    cases rb with
    | int i =>
      obtain ⟨w, h1, h2⟩ := r.atI (show L2.atI _ i = some v from e)
      exact .inl (.inr (.inl ⟨_, _, i, w, rfl, rfl, SqT.of (s _ _ h), h1, q _ F H (Grow.refl s) h2⟩))
    | _ => cases e
  | lst h r _ =>
    cases rb with
    | int i =>
      obtain ⟨w, h1, h2⟩ := r.atI (show L2.atI _ i = some v from e)
      exact .inl (.inl ⟨_, _, i, w, rfl, rfl, SqL.of (s _ _ h), h1, q _ F H (Grow.refl s) h2⟩)
    | _ => cases e
  | @scr a ns h =>
    cases rb with
    | int i =>
      obtain ⟨n, h1, rfl⟩ := Option.map_eq_some_iff.mp (show (L2.atI ns i).map PV.int = some v from e)
      exact .inl (.inl ⟨_, _, i, _, rfl, rfl, s.seq h, atI_map V.int h1, q _ F H (Grow.refl s) (.int _)⟩)
    | _ => cases e
  | str z =>
    cases rb with
    | int i =>
      have e' : (if z.length ≤ sizeLine then (L2.atI z.cps.toList i).map fun k => PV.str ⟨#[k]⟩ else none) = some v := e
      by_cases hz : z.length ≤ sizeLine
      · rw [if_pos hz] at e'
        obtain ⟨n, h1, rfl⟩ := Option.map_eq_some_iff.mp e'
        exact .inl (.inr (.inr ⟨z, i, n, rfl, rfl, hz, h1, q _ F H (Grow.refl s) (.str _)⟩))
      · rw [if_neg hz] at e'
        cases e'
    | _ => cases e
  | @dic a vs g xs h r _ =>
    obtain ⟨k, h1, h2⟩ := Option.bind_eq_some_iff.mp (show (keyP b).bind (fun k => valP xs k) = some v from by cases b <;> exact e)
    obtain ⟨w, h3, h4⟩ := r.val h2
    have ek := keyP_ok rb h1
    subst ek
    refine .inr ⟨_, w, rfl, ?_, q _ F H (Grow.refl s) h4⟩
    rw [← h3]
    exact DGet.k (s _ _ h)
  | _ => cases rb <;> cases e
def rSl3 (K : PySem.W.Frag) : V → Option Int → Option Int → Hp → VK → Prop := fun x lo hi H Q => C8.rSlX x lo hi H Q ∨ (rSlA K x lo hi H Q ∨ rSlL K x lo hi H Q)
theorem sl_3 : SlR X (rSl3 X.K) := C8.sl_txt.or (sl_tupA.or sl_list)
theorem Reps.cut {F : Hp} {vs : List V} {xs : List PV} (r : Reps c F vs xs) (lo hi : Option Int) : Reps c F (cutV vs lo hi) (cutP xs lo hi) := by
  unfold cutV cutP
  rw [r.length]
  exact (r.drop _).take _
theorem cut_ints (ns : List Int) (lo hi : Option Int) : cutV (ns.map V.int) lo hi = (cutP ns lo hi).map V.int := by
  unfold cutV cutP
  rw [List.length_map, List.map_take, List.map_drop]
theorem cutP_whole {α : Type} {xs : List α} {lo hi : Option Int} (h : HT.sIx xs.length 0 lo = 0 ∧ HT.sIx xs.length xs.length hi = xs.length) : cutP xs lo hi = xs := by
  unfold cutP
  rw [h.1, h.2]
  simp
theorem o_sl (hk : c.K = X.K) : OpS c pSl (rSl3 X.K) := fun lo hi F H x a v Q s ra e q => by
  rw [← hk]
  cases ra with
  | @tup a vs xs h r =>
    cases e
    refine .inr (.inl ⟨a, vs, rfl, SqT.of (s _ _ h), fun z => ?_, fun _ p hp => ?_⟩)
    · rw [r.length] at z
      rw [cutP_whole z] at q
      exact q _ F H (Grow.refl s) (.tup h r)
    · have gr := upd_grow (o := .tup (cutV vs lo hi)) s hp
      exact q _ _ _ gr (.tup upd_same ((r.cut lo hi).mono gr.ff))
  | @lst a vs g xs h r _ =>
    cases e
    refine .inr (.inr ⟨a, vs, rfl, SqL.of (s _ _ h), fun p hp => ?_⟩)
    have gr := upd_grow (o := .lst (cutV vs lo hi)) s hp
    exact q _ _ _ gr (.lst upd_same ((r.cut lo hi).mono gr.ff) fun _ z => nomatch z)
  | @scr a ns h =>
    cases e
    refine .inr (.inr ⟨a, _, rfl, s.seq h, fun p hp => ?_⟩)
    have gr := upd_grow (o := .lst (cutV (ns.map V.int) lo hi)) s hp
    exact q _ _ _ gr (.lst upd_same (by rw [cut_ints]; exact Reps.ofInts _) fun _ z => nomatch z)
  | str z =>
    have e' : (if z.length ≤ sizeLine then some (PV.str (Txt.slice z lo hi)) else none) = some v := e
    by_cases hz : z.length ≤ sizeLine
    · rw [if_pos hz] at e'
      cases e'
      exact .inl ⟨z, rfl, hz, q _ F H (Grow.refl s) (.str _)⟩
    · rw [if_neg hz] at e'
      cases e'
  | _ => cases e
theorem o_slL (hk : c.K = X.K) : OlS c lSlice (rSlL X.K) := fun lo hi F H x a v Q s ra e q => by
  rw [← hk]
  cases ra with
  | @lst a vs g xs h r _ =>
    cases e
    exact ⟨a, vs, rfl, SqL.of (s _ _ h), fun p hp => q _ (r.cut lo hi) p hp⟩
  | @scr a ns h =>
    cases e
    exact ⟨a, _, rfl, s.seq h, fun p hp => q _ (by rw [cut_ints]; exact Reps.ofInts _) p hp⟩
  | _ => cases e
end

/-! ### isinstance -/
def tyN : PV → Option String
  | .non => some "NoneType"
  | .bl _ => some "bool"
  | .int _ => some "int"
  | .str _ => some "str"
  | .tup _ => some "tuple"
  | .lst _ _ => some "list"
  | .dic _ _ => some "dict"
  | _ => none
def isT (T : String) (v : PV) : Option Bool := (tyN v).bind fun t => kitB t T
def pIsi (T : String) (v : PV) : Option PV := (isT T v).map .bl
def anyT (v : PV) : List String → Option Bool
  | [] => some false
  | T :: Ts => (isT T v).bind fun b => if b = true then some true else anyT v Ts
def pIsiT (Ts : List String) (v : PV) : Option PV := (anyT v Ts).map .bl
section
variable {c : Cn} {X : Cx} {W : WX} {a : Expr} {pos : Pos} {ga : GE}
theorem tyN_ok {F H : Hp} {x : V} {v : PV} {t : String} (s : Same F H) (r : Rep c F x v) (e : tyN v = some t) : TyOf c.K H x (.type t) := by
  cases r with
  | non => cases e; exact .non
  | bl b => cases e; exact .bl b
  | int i => cases e; exact .int i
  | str y => cases e; exact .str y
  | tup h r => cases e; exact .tup (s _ _ h)
  | lst h r _ => cases e; exact .lst (s _ _ h)
  | dic h r _ => cases e; exact .dK (s _ _ h)
  | _ => cases e
/-- isinstance(e, T), T a built-in class by its name -/
theorem ve_isi {x T : Str} {U : String} {p p2 : Pos} (hk : c.K = X.K) (hg : Gl X x) (hm : X.mg x = none) (hv : bootBuiltins x = some (.builtin "isinstance")) (ha : PE X a (tE c W ga)) (hgT : Gl X T) (hmT : X.mg T = none) (hvT : bootBuiltins T = some (.type U))
    (hn : x ≠ "__name__" := by decide) (hdb : (x == ("__debug__" : Str)) = false := by decide) (hnT : T ≠ "__name__" := by decide) (hdT : (T == ("__debug__" : Str)) = false := by decide)
    (he : starEach [a, .Name T p2] X.env = (false, eval a X.env) :: starEach [.Name T p2] X.env := by rfl) (he2 : starEach [.Name T p2] X.env = (false, eval (.Name T p2) X.env) :: starEach [] X.env := by rfl)
    (hpl : (backTo pos (starEach [.Name T p2] X.env)).any (·.1) = false := by rfl) : PE X (.Call (.Name x p) [a, .Name T p2] [] pos) (tE c W (eOp1 (pIsi U) ga)) :=
  imp_PE (pe_callB call_isi hg hm hv (pa_cons ha (pa_cons (pe_bltn (v := .ty U) hgT hmT hvT rfl hnT hdT) pa_nil he2) he) hn hdb he hpl) fun σ H Q ⟨ρ, F, er, z⟩ => by
    refine tE_bind er z fun v ρ1 w F1 H1 st rep h1 => ?_
    obtain ⟨u, e, h1⟩ := lift_run h1
    obtain ⟨b, e1, rfl⟩ := Option.map_eq_some_iff.mp e
    obtain ⟨t, e2, e3⟩ := Option.bind_eq_some_iff.mp e1
    refine ⟨w, .ty U, .type t, .type U, b, rfl, .ty U, .base ?_, kit_ty e3, h1 _ F1 H1 st (.bl b)⟩
    rw [← hk]
    exact tyN_ok st.2.sub rep e2
end
end VL

set_option Elab.async false
set_option linter.all false
set_option maxRecDepth 100000
set_option maxHeartbeats 1000000
/-! VL, part 4: in, methods, calls, what is walked, comprehensions. -/
namespace VL
open PySem PySem.Spec PyProof.Rows L2

/-! ### in -/
def flatP : PV → Bool
  | .non => true
  | .bl _ => true
  | .int _ => true
  | .str _ => true
  | _ => false
def eqF : PV → PV → Bool
  | .non, .non => true
  | .bl a, .bl b => a == b
  | .bl a, .int b => (if a then 1 else 0) == b
  | .int a, .bl b => a == (if b then 1 else 0)
  | .int a, .int b => a == b
  | .str a, .str b => a == b
  | _, _ => false
def inS (x z : Str) : Option Bool := match x.cps.toList with
  | [k] => some (decide (k ∈ z.cps.toList))
  | _ => none
def inD (a : PV) (xs : List PV) : Option Bool := match pvD a, pvDs xs with
  | some d, some ds => if SeqAt.shaped d = true ∧ SeqAt.shaped (.list ds) = true then some (ds.any fun z => PyData.eqv z d) else none
  | _, _ => none
def inB : PV → PV → Option Bool
  | .str x, .str z => inS x z
  | a, .lst _ xs => if flatP a = true ∧ xs.all flatP = true then some (xs.any fun y => eqF y a) else inD a xs
  | a, .tup xs => if flatP a = true ∧ xs.all flatP = true then some (xs.any fun y => eqF y a) else none
  | a, .dic _ kvs => (keyP a).map fun k => (valP kvs k).isSome
  | _, _ => none
def pIn (a b : PV) : Option PV := (inB a b).map .bl
def pNotIn (a b : PV) : Option PV := (inB a b).map fun k => .bl (!k)
section
variable {c : Cn} {X : Cx}
theorem flatP_ok {F : Hp} {w : V} {v : PV} (r : Rep c F w v) (e : flatP v = true) : flatV w = true := by
  cases r <;> first | rfl | cases e
theorem flatP_all {F : Hp} : ∀ {ws : List V} {vs : List PV}, Reps c F ws vs → vs.all flatP = true → ws.all flatV = true
  | _, _, .nil, _ => rfl
  | _, _, .cons h r, e => by
    rw [List.all_cons, Bool.and_eq_true] at e ⊢
    exact ⟨flatP_ok h e.1, flatP_all r e.2⟩
theorem eqF_ok {F : Hp} {w u : V} {v z : PV} (r : Rep c F w v) (r' : Rep c F u z) (f : flatP v = true) (f' : flatP z = true) : eqV w u = eqF v z := by
  cases r <;> cases r' <;> first
    | exact absurd (show false = true from f) Bool.false_ne_true
    | exact absurd (show false = true from f') Bool.false_ne_true
    | rfl
theorem eqF_any {F : Hp} {u : V} {z : PV} (r' : Rep c F u z) (f' : flatP z = true) : ∀ {ws : List V} {vs : List PV}, Reps c F ws vs → vs.all flatP = true → inV u ws = vs.any fun y => eqF y z
  | _, _, .nil, _ => rfl
  | _, _, .cons h r, e => by
    rw [List.all_cons, Bool.and_eq_true] at e
    show (eqV _ u || inV u _) = _
    rw [List.any_cons, eqF_ok h r' e.1 f', eqF_any r' f' r e.2]
/-- in: a sign in a text, flat things in a list | a tuple, data in a list, a key in a dict -/
def rInA (K : PySem.W.Frag) (f : Bool → Bool) : R2 := fun x y H Q => (∃ (k : Nat) (z : Str), x = .str ⟨#[k]⟩ ∧ y = .str z ∧ Q (.bl (f (decide (k ∈ z.cps.toList)))) H) ∨
  ((∃ p xs, y = .ref p ∧ (SqL K H p xs ∨ SqT K H p xs) ∧ flatV x = true ∧ xs.all flatV = true ∧ Q (.bl (f (inV x xs))) H) ∨
  ((∃ d ds, Dp K H x d ∧ Dp K H y (.list ds) ∧ SeqAt.shaped d = true ∧ SeqAt.shaped (.list ds) = true ∧ Q (.bl (f (ds.any fun z => PyData.eqv z d))) H) ∨
  ∃ a o, y = .ref a ∧ DGet H a x o ∧ Q (.bl (f o.isSome)) H))
theorem op_inA (hu : X.A.units + 65 < cLine) : OpR X (compareOp .In) (rInA X.K id) := op_in_sign.or (op_in_seq.or ((op_inD hu).or (by
  intro pins s σ H x y v u Q I rx ry h
  obtain ⟨a, o, rfl, g, q⟩ := h
  obtain rfl : u = Value.ref a := ry
  exact d_in (by omega) I g rx fun s' J => ⟨.bl _, H, J, rfl, q⟩)))
theorem op_notInA (hu : X.A.units + 65 < cLine) : OpR X (compareOp .NotIn) (rInA X.K (!·)) := op_notIn_sign.or (op_notIn_seq.or ((op_notInD hu).or (by
  intro pins s σ H x y v u Q I rx ry h
  obtain ⟨a, o, rfl, g, q⟩ := h
  obtain rfl : u = Value.ref a := ry
  exact d_notIn (by omega) I g rx fun s' J => ⟨.bl _, H, J, rfl, q⟩)))
theorem str_one {x : Str} {k : Nat} (h : x.cps.toList = [k]) : x = ⟨#[k]⟩ := by
  obtain ⟨a⟩ := x
  have e : a = #[k] := by
    apply Array.ext'
    rw [h]
  rw [e]
theorem RepD.isSome {F : Hp} {z : Key} : ∀ {vs : List (Key × V)} {xs : List (Key × PV)}, RepD c F vs xs → (valV vs z).isSome = (valP xs z).isSome
  | _, _, .nil => rfl
  | _, _, .cons (k := k') h r => by
    by_cases q : k' = z
    · rw [valV_pos q]
      unfold valP
      rw [List.find?_cons_of_pos (by simp [q])]
      rfl
    · rw [valV_neg q, RepD.isSome r]
      unfold valP
      rw [List.find?_cons_of_neg (by simp [q])]
theorem inB_ok {f : Bool → Bool} {F H : Hp} {x y : V} {a b : PV} {k : Bool} {Q : VK} (s : Same F H) (ra : Rep c F x a) (rb : Rep c F y b) (e : inB a b = some k) (q : Q (.bl (f k)) H) : rInA c.K f x y H Q := by
  have list : ∀ {p : Addr} {vs : List V} {g : Option Addr} {xs : List PV}, F p = some (.lst vs) → Reps c F vs xs → (if flatP a = true ∧ xs.all flatP = true then some (xs.any fun y => eqF y a) else inD a xs) = some k → rInA c.K f x (.ref p) H Q := by
    intro p vs g xs h r e
    by_cases hf : flatP a = true ∧ xs.all flatP = true
    · rw [if_pos hf] at e
      cases e
      exact .inr (.inl ⟨p, vs, rfl, .inl (SqL.of (s _ _ h)), flatP_ok ra hf.1, flatP_all r hf.2, by rw [eqF_any ra hf.1 r hf.2]; exact q⟩)
    · rw [if_neg hf] at e
      unfold inD at e
      split at e
      · rename_i d ds h1 h2
        split at e
        · rename_i hs
          cases e
          exact .inr (.inr (.inl ⟨d, ds, pvD_ok (ra.mono s) h1, .lst (SqL.of (s _ _ h)) (pvDs_ok (r.mono s) h2), hs.1, hs.2, q⟩))
        · cases e
      · cases e
  have tup : ∀ {p : Addr} {vs : List V} {xs : List PV}, F p = some (.tup vs) → Reps c F vs xs → (if flatP a = true ∧ xs.all flatP = true then some (xs.any fun y => eqF y a) else none) = some k → rInA c.K f x (.ref p) H Q := by
    intro p vs xs h r e
    by_cases hf : flatP a = true ∧ xs.all flatP = true
    · rw [if_pos hf] at e
      cases e
      exact .inr (.inl ⟨p, vs, rfl, .inr (SqT.of (s _ _ h)), flatP_ok ra hf.1, flatP_all r hf.2, by rw [eqF_any ra hf.1 r hf.2]; exact q⟩)
    · rw [if_neg hf] at e
      cases e
  have dic : ∀ {p : Addr} {vs : List (Key × V)} {xs : List (Key × PV)}, F p = some (.dK vs) → RepD c F vs xs → (keyP a).map (fun k => (valP xs k).isSome) = some k → rInA c.K f x (.ref p) H Q := by
    intro p vs xs h r e
    obtain ⟨z, h1, h2⟩ := Option.map_eq_some_iff.mp e
    have ek := keyP_ok ra h1
    subst ek
    refine .inr (.inr (.inr ⟨p, _, rfl, DGet.k (s _ _ h), ?_⟩))
    rw [r.isSome, h2]
    exact q
  cases rb with
  | lst h r _ => exact list (g := none) h r (by cases ra <;> exact e)
  | tup h r => exact tup h r (by cases ra <;> exact e)
  | dic h r _ => exact dic h r (by cases ra <;> exact e)
  | str z =>
    cases ra with
    | str x =>
      have e' : inS x z = some k := e
      unfold inS at e'
      split at e'
      · rename_i n hn
        cases e'
        exact .inl ⟨n, z, by rw [str_one hn], rfl, q⟩
      · cases e'
    | _ => cases e
  | _ => cases ra <;> cases e
theorem o_in (hk : c.K = X.K) : Op2 c pIn (rInA X.K id) := fun F H x y a b v Q s ra rb e q => by
  obtain ⟨k, e1, rfl⟩ := Option.map_eq_some_iff.mp e
  rw [← hk]
  exact inB_ok s ra rb e1 (q _ F H (Grow.refl s) (.bl k))
theorem o_notIn (hk : c.K = X.K) : Op2 c pNotIn (rInA X.K (!·)) := fun F H x y a b v Q s ra rb e q => by
  obtain ⟨k, e1, rfl⟩ := Option.map_eq_some_iff.mp e
  rw [← hk]
  exact inB_ok s ra rb e1 (q _ F H (Grow.refl s) (.bl !k))
end

/-! ### isinstance with a tuple of classes; texts' methods -/
section
variable {c : Cn} {X : Cx} {W : WX} {a b : Expr} {pos : Pos} {ga gb : GE}
/-- names of built-in classes, from the left -/
inductive TyNames (X : Cx) : List Expr → List String → Prop
  | nil : TyNames X [] []
  | cons {T : Str} {U : String} {p : Pos} {es : List Expr} {us : List String} (hg : Gl X T) (hm : X.mg T = none) (hv : bootBuiltins T = some (.type U)) (hn : T ≠ "__name__") (hd : (T == ("__debug__" : Str)) = false) (r : TyNames X es us)
      (he : starEach (.Name T p :: es) X.env = (false, eval (.Name T p) X.env) :: starEach es X.env) : TyNames X (.Name T p :: es) (U :: us)
def tVs (vs : List V) : TA := fun _ H Q => Q vs H
theorem tyNames_pa {es : List Expr} {us : List String} (h : TyNames X es us) : PA X es (tVs (us.map V.ty)) := by
  induction h with
  | nil => exact pa_nil
  | cons hg hm hv hn hd r he ih => exact pa_cons (pe_bltn (v := .ty _) hg hm hv rfl hn hd) ih he
theorem anyT_ok {K : PySem.W.Frag} {v : PV} {t : String} (ht : tyN v = some t) : ∀ {us : List String} {b : Bool}, anyT v us = some b → PySem.W.kitAny K (.type t) (us.map Value.type) = some b
  | [], b, e => by cases e; rfl
  | u :: us, b, e => by
    obtain ⟨k, e1, e2⟩ := Option.bind_eq_some_iff.mp (show (isT u v).bind _ = some b from e)
    obtain ⟨t', e3, e4⟩ := Option.bind_eq_some_iff.mp e1
    rw [ht] at e3
    cases e3
    have q : PySem.W.kitOne K (.type t) (.type u) = some k := kit_ty e4
    show PySem.W.kitAny K (.type t) (.type u :: us.map Value.type) = some b
    unfold PySem.W.kitAny
    rw [q]
    cases k with
    | true => cases e2; rfl
    | false => exact anyT_ok ht e2
theorem clsV_all : ∀ us : List String, Paired ClsV (us.map V.ty) (us.map Value.type)
  | [] => .nil
  | u :: us => .cons (.ty u) (clsV_all us)
theorem ve_isiT {x : Str} {es : List Expr} {us : List String} {p p2 : Pos} {k2 : Nat} (hk : c.K = X.K) (hg : Gl X x) (hm : X.mg x = none) (hv : bootBuiltins x = some (.builtin "isinstance")) (hz : us.length ≤ sizeLine) (hne : us ≠ []) (ha : PE X a (tE c W ga)) (ht : TyNames X es us)
    (hn : x ≠ "__name__" := by decide) (hdb : (x == ("__debug__" : Str)) = false := by decide)
    (he : starEach [a, .Tuple es k2 p2] X.env = (false, eval a X.env) :: starEach [.Tuple es k2 p2] X.env := by rfl) (he2 : starEach [.Tuple es k2 p2] X.env = (false, eval (.Tuple es k2 p2) X.env) :: starEach [] X.env := by rfl)
    (hpl : (backTo pos (starEach [.Tuple es k2 p2] X.env)).any (·.1) = false := by rfl) : PE X (.Call (.Name x p) [a, .Tuple es k2 p2] [] pos) (tE c W (eOp1 (pIsiT us) ga)) :=
  imp_PE (pe_callB call_isiT hg hm hv (pa_cons ha (pa_cons (pe_tup (tyNames_pa ht)) pa_nil he2) he) hn hdb he hpl) fun σ H Q ⟨ρ, F, er, z⟩ => by
    refine tE_bind er z fun v ρ1 w F1 H1 st rep h1 => ?_
    obtain ⟨u, e, h1⟩ := lift_run h1
    obtain ⟨b, e1, rfl⟩ := Option.map_eq_some_iff.mp e
    have ht' : ∃ t, tyN v = some t := by
      cases us with
      | nil => exact absurd rfl hne
      | cons u us =>
        obtain ⟨k, e2, _⟩ := Option.bind_eq_some_iff.mp (show (isT u v).bind _ = some b from e1)
        obtain ⟨t, e3, _⟩ := Option.bind_eq_some_iff.mp e2
        exact ⟨t, e3⟩
    obtain ⟨t, ht'⟩ := ht'
    refine ⟨by rw [List.length_map]; exact hz, fun q hq => ?_⟩
    have gr := upd_growH (o := .tup (us.map V.ty)) st.2.sub hq
    refine ⟨w, q, us.map V.ty, .type t, us.map Value.type, b, rfl, upd_same, clsV_all us, .base ?_, anyT_ok ht' e1, h1 _ F1 _ (st.trans (gr.stpE st.2)) (.bl b)⟩
    rw [← hk]
    exact tyN_ok gr.sub rep ht'

/-- sep.join(xs) -/
def pJoin : PV → PV → Option PV
  | .str a, .lst _ xs => (strsOf xs).bind fun ys => if (ys.map (·.length)).sum + ys.length * a.length ≤ 16777216 then some (.str (Txt.join a ys)) else none
  | .str a, .tup xs => (strsOf xs).bind fun ys => if (ys.map (·.length)).sum + ys.length * a.length ≤ 16777216 then some (.str (Txt.join a ys)) else none
  | _, _ => none
def isStr : PV → Bool
  | .str _ => true
  | _ => false
/-- a text's method of one argument: the receiver is a text ahead of the argument -/
def eStrM (f : PV → PV → Option PV) (g h : GE) : GE := fun ρ => (g ρ).bind fun a => if isStr a.1 = true then (h a.2).bind fun b => lift (f a.1 b.1) b.2 else .stuck
def lStrM (f : PV → PV → Option (List PV)) (g h : GE) : GL := fun ρ => (g ρ).bind fun a => if isStr a.1 = true then (h a.2).bind fun b => lift' (f a.1 b.1) b.2 else .stuck
theorem ve_join {apos : Pos} (hk : c.K = X.K) (ha : PE X a (tE c W ga)) (hb : PE X b (tE c W gb)) (hs : starEach [b] X.env = [(false, eval b X.env)] := by rfl) (hbase : attributeBase a "join" X.env (eval a X.env) = eval a X.env := by rfl)
    (hline : (apos.endLine == pos.line) = true := by rfl) : PE X (.Call (.Attribute a "join" apos) [b] [] pos) (tE c W (eStrM pJoin ga gb)) :=
  imp_PE (pe_join ha hb hs hbase hline) fun σ H Q ⟨ρ, F, er, z⟩ => by
    refine tE_bind er z fun v ρ1 w F1 H1 st rep h1 => ?_
    cases rep with
    | str x =>
      refine ⟨⟨x, rfl⟩, tE_bind st.2 h1 fun u ρ2 w2 F2 H2 st2 rep2 h2 => ?_⟩
      obtain ⟨q, e, h2⟩ := lift_run h2
      rw [← hk]
      cases rep2 with
      | @lst p vs g xs h r _ =>
        obtain ⟨ys, e1, e2⟩ := Option.bind_eq_some_iff.mp (show (strsOf xs).bind _ = some q from e)
        have ew := strsOf_ok r e1
        subst ew
        split at e2
        · rename_i hz
          cases e2
          exact ⟨x, p, ys, rfl, rfl, .inl (SqL.of (st2.2.sub _ _ h)), hz, h2 _ F2 H2 (st.trans st2) (.str _)⟩
        · cases e2
      | @tup p vs xs h r =>
        obtain ⟨ys, e1, e2⟩ := Option.bind_eq_some_iff.mp (show (strsOf xs).bind _ = some q from e)
        have ew := strsOf_ok r e1
        subst ew
        split at e2
        · rename_i hz
          cases e2
          exact ⟨x, p, ys, rfl, rfl, .inr (SqT.of (st2.2.sub _ _ h)), hz, h2 _ F2 H2 (st.trans st2) (.str _)⟩
        · cases e2
      | _ => cases e
    | _ => exact h1.elim
/-- s.split(sep) -/
def lSplit : PV → PV → Option (List PV)
  | .str a, .str b => if (b.length == 0) = false ∧ a.length + 2 ≤ sizeLine then some ((Txt.split a b).map .str) else none
  | _, _ => none
theorem Reps.ofStrs {F : Hp} : ∀ ns : List Str, Reps c F (ns.map V.str) (ns.map PV.str)
  | [] => .nil
  | n :: ns => .cons (.str n) (Reps.ofStrs ns)
theorem vl_split {apos : Pos} (ha : PE X a (tE c W ga)) (hb : PE X b (tE c W gb)) (hs : starEach [b] X.env = [(false, eval b X.env)] := by rfl) (hbase : attributeBase a "split" X.env (eval a X.env) = eval a X.env := by rfl)
    (hline : (apos.endLine == pos.line) = true := by rfl) : PE X (.Call (.Attribute a "split" apos) [b] [] pos) (tL c W (lStrM lSplit ga gb)) :=
  imp_PE (pe_split ha hb hs hbase hline) fun σ H Q ⟨ρ, F, er, z⟩ => by
    refine tE_bind er z fun v ρ1 w F1 H1 st rep h1 => ?_
    cases rep with
    | str x =>
      refine ⟨⟨x, rfl⟩, tE_bind st.2 h1 fun u ρ2 w2 F2 H2 st2 rep2 h2 => ?_⟩
      obtain ⟨q, e, h2⟩ := lift'_run h2
      cases rep2 with
      | str y =>
        have e' : (if (y.length == 0) = false ∧ x.length + 2 ≤ sizeLine then some ((Txt.split x y).map PV.str) else none) = some q := e
        split at e'
        · rename_i hz
          cases e'
          exact ⟨x, y, rfl, rfl, hz.1, hz.2, fun p hp => laidL (st.trans st2) h2 hp (Reps.ofStrs _)⟩
        · cases e'
      | _ => cases e
    | _ => exact h1.elim
end

/-! ### defs: what they promise, their calls -/
abbrev GF := List SV → Wp XE' (PV × List SV)
def SpV (c : Cn) (n : Nat) (m : GF) : Sp := fun vs H Q E => vs.length = n ∧ ∃ F ss, ER c F H (vs.map some) ss ∧
  (m ss).run (OkE c (vs.map some) ss F H Q) (ErE c (fun cls d _ H' => E cls d H') (vs.map some) ss F H)
/-- a def of the module by its name -/
structure Fv (P : Program) (w : World) (K : PySem.W.Frag) (mg : Str → Option Value) (base : Heap) (c : Cn) (k : Nat) (x : Str) (n : Nat) (m : GF) : Prop where
  ex : ∃ (f : Addr) (fd : FuncData) (ps : List Str), ps.length = n ∧ mg x = some (.ref f) ∧ FnOk P w K mg base (L2.CX P w) k f fd ps (SpV c n m) ∧ PySem.W.keepIn K (.ref f) = true ∧ Binds K fd ps []
def fzs (xs : List PV) : List SV := xs.map .fz
theorem Reps.er {c : Cn} {F H : Hp} (s : Same F H) : ∀ {vs : List V} {xs : List PV}, Reps c F vs xs → ER c F H (vs.map some) (fzs xs) := fun {vs xs} r => by
  refine ⟨s, by rw [List.length_map, fzs, List.length_map, r.length], fun i o t h1 h2 => ?_, fun i j t u p h1 h2 h3 h4 h5 h6 => ?_⟩
  · unfold fzs at h2
    rw [List.getElem?_map] at h1 h2
    obtain ⟨x, e1, rfl⟩ := Option.map_eq_some_iff.mp h2
    obtain ⟨v, e2, rp⟩ := r.get e1
    rw [e2] at h1
    cases h1
    exact ⟨v, rfl, rp⟩
  · unfold fzs at h3
    rw [List.getElem?_map] at h3
    obtain ⟨x, e1, rfl⟩ := Option.map_eq_some_iff.mp h3
    cases h5
theorem fzs_own {σ : St} {xs : List PV} {p : Addr} : ¬ Own σ (fzs xs) p := fun ⟨i, s, h1, h2, h3⟩ => by
  unfold fzs at h2
  rw [List.getElem?_map] at h2
  obtain ⟨x, e1, rfl⟩ := Option.map_eq_some_iff.mp h2
  cases h3
section
variable {c : Cn} {X : Cx} {W : WX} {pos p : Pos} {x : Str}
def eCall (m : GF) (ga : GA) : GE := fun ρ => (ga ρ).bind fun a => ((m (fzs a.1)).mapE fun e => (e.1, a.2)).bind fun r => .ret (r.1, a.2)
theorem call_frozen {m : GF} {σ : St} {ρ ρ1 : Env'} {F H F1 H1 : Hp} {Q : VK} {vs : List V} {v : List PV} {n : Nat} {W : WX} (hl : vs.length = n) (st : StpE c σ ρ F H ρ1 F1 H1) (rep : Reps c F1 vs v)
    (h : (m (fzs v)).run (fun r => OkE c σ ρ F H Q (r.1, ρ1)) (fun e => ErE c W σ ρ1 F1 H1 (e.1, ρ1))) : SpV c n m vs H1 Q (WE W σ) := by
  refine ⟨hl, F1, fzs v, rep.er st.2.sub, (m (fzs v)).mono (fun r q w F' H' st' rp => ?_) (fun e q d F' H' st' ex => ?_) h⟩
  · have gr : Grow F1 H1 F' H' := ⟨st'.1.ff, fun b o z => (st'.1.hh b o z fzs_own).1, st'.2.sub, fun b o z => (st'.1.hh b o z fzs_own).2⟩
    exact q w F' H' (st.trans (gr.stpE st.2)) rp
  · have gr : Grow F1 H1 F' H' := ⟨st'.1.ff, fun b o z => (st'.1.hh b o z fzs_own).1, st'.2.sub, fun b o z => (st'.1.hh b o z fzs_own).2⟩
    exact q d F' H' (gr.stpE st.2) ex
theorem ve_call {k j n : Nat} {m : GF} {e : Expr} {es : List Expr} {ga : GA} (F : Fv X.prog X.w X.K X.mg X.base c k x n m) (hr : Room j X.A) (hj : k ≤ j) (hg : Gl X x) (tk : Takes X W) (ha : PA X (e :: es) (tA c W n ga))
    (hdb : (x == ("__debug__" : Str)) = false := by decide) (he : starEach (e :: es) X.env = (false, eval e X.env) :: starEach es X.env := by rfl) (hpl : (backTo pos (starEach es X.env)).any (·.1) = false := by rfl) :
    PE X (.Call (.Name x p) (e :: es) [] pos) (tE c W (eCall m ga)) := by
  obtain ⟨f, fd, ps, hp, hm, G, kp, hb⟩ := F.ex
  exact imp_PE (pe_callS G (hr.mono hj) hg hm kp hb (fun σ => passAt tk σ) ha hdb he hpl) fun σ H Q ⟨ρ, F, er, z⟩ =>
    tA_bind er z fun v ρ1 vs F1 H1 st rep hl h1 => call_frozen hl st rep h1
end
end VL

set_option Elab.async false
set_option linter.all false
set_option maxRecDepth 100000
set_option maxHeartbeats 1000000
/-! VL, part 5: calls with a box, targets, what is walked, comprehensions. -/
namespace VL
open PySem PySem.Spec PyProof.Rows L2

/-! ### a call whose first argument is a slot of one's own -/
def ownAt (ρ : Env') (i : Nat) : Bool := match ρ[i]? with
  | some s => s.own
  | none => false
def boxCall (m : GF) (i : Nat) (v : List PV) (ρ : Env') : Wp XE' (PV × Env') := match ρ[i]? with
  | some s => if s.own = true then ((m (s :: fzs v)).mapE fun e => (e.1, ρ.set i (e.2.headD .un))).bind fun r => .ret (r.1, ρ.set i (r.2.headD .un)) else .stuck
  | none => .stuck
def eCallB (m : GF) (i : Nat) (ga : GA) : GE := fun ρ => if ownAt ρ i = true then (ga ρ).bind fun a => boxCall m i a.1 a.2 else .stuck
theorem ownAt_val {c : Cn} {F H : Hp} {σ : St} {ρ : Env'} {i : Nat} (er : ER c F H σ ρ) (h : ownAt ρ i = true) : ∃ u, σ[i]? = some (some u) := by
  unfold ownAt at h
  split at h
  · rename_i s hs
    have hi : i < σ.length := by rw [er.len]; exact (List.getElem?_eq_some_iff.mp hs).1
    have q := er.slot i σ[i] s (List.getElem?_eq_getElem hi) hs
    rw [List.getElem?_eq_getElem hi]
    cases s with
    | un => cases h
    | fz v => cases h
    | ow xs => obtain ⟨p, vs, e, _⟩ := q; exact ⟨_, by rw [e]⟩
    | bx n => obtain ⟨p, vs, e, _⟩ := q; exact ⟨_, by rw [e]⟩
  · cases h
section
variable {c : Cn} {σ : St} {ρ : Env'} {F H F' H' : Hp}
/-- a slot of one's own is handed on: the callee's view -/
theorem er_hand {i : Nat} {s : SV} {v : V} {vs : List V} {xs : List PV} (er : ER c F H σ ρ) (hi : ρ[i]? = some s) (ho : s.own = true) (hv : σ[i]? = some (some v)) (r : Reps c F vs xs) : ER c F H ((v :: vs).map some) (s :: fzs xs) := by
  have e0 := r.er er.sub
  refine ⟨er.sub, by simp [fzs, r.length], fun j o t h1 h2 => ?_, fun j k t u p h1 h2 h3 h4 h5 h6 => ?_⟩
  · cases j with
    | zero => cases h1; cases h2; exact er.slot i _ _ hv hi
    | succ j => exact e0.slot j o t (by simpa using h1) (by simpa using h2)
  · cases j with
    | zero =>
      cases k with
      | zero => rfl
      | succ k => exact absurd ⟨k, u, by simpa using h2, by simpa using h4, h6⟩ (fzs_own (σ := vs.map some) (xs := xs) (p := p))
    | succ j => exact absurd ⟨j, t, by simpa using h1, by simpa using h3, h5⟩ (fzs_own (σ := vs.map some) (xs := xs) (p := p))
theorem own_hand {i : Nat} {s : SV} {v : V} {vs : List V} {xs : List PV} {p : Addr} (h : Own ((v :: vs).map some) (s :: fzs xs) p) : v = .ref p ∧ s.own = true := by
  obtain ⟨j, t, h1, h2, h3⟩ := h
  cases j with
  | zero => cases h1; cases h2; exact ⟨rfl, h3⟩
  | succ j => exact absurd ⟨j, t, by simpa using h1, by simpa using h2, h3⟩ (fzs_own (σ := vs.map some) (xs := xs) (p := p))
/-- .. and behind: what came back stands in the slot -/
theorem er_back {i : Nat} {s t : SV} {v : V} {vs : List V} {xs : List PV} {out : List SV} (er : ER c F H σ ρ) (hi : ρ[i]? = some s) (ho : s.own = true) (hv : σ[i]? = some (some v)) (r : Reps c F vs xs)
    (st : Stp F H (Own ((v :: vs).map some) (s :: fzs xs)) F' H' (Own ((v :: vs).map some) out)) (er' : ER c F' H' ((v :: vs).map some) out) (ht : out.headD .un = t) : StpE c σ ρ F H (ρ.set i t) F' H' := by
  have hil : i < ρ.length := (List.getElem?_eq_some_iff.mp hi).1
  have hh : ∀ p, v = .ref p → ∀ j u, σ[j]? = some (some (.ref p)) → ρ[j]? = some u → u.own = true → j = i := fun p e j u h1 h2 h3 => by
    subst e
    exact er.dis j i u s p h1 hv h2 hi h3 ho
  have ht0 : out[0]? = some t ∨ t = .un := by
    cases out with
    | nil => exact .inr ht.symm
    | cons a as => exact .inl (by simp at ht ⊢; exact ht)
  have own' : ∀ p, Own σ (ρ.set i t) p → (v = .ref p ∧ out[0]? = some t ∧ t.own = true) ∨ (Own σ ρ p ∧ v ≠ .ref p) := fun p ⟨j, u, h1, h2, h3⟩ => by
    by_cases hj : i = j
    · subst hj
      rw [List.getElem?_set_self hil] at h2
      cases h2
      rw [hv] at h1
      cases h1
      rcases ht0 with q | q
      · exact .inl ⟨rfl, q, h3⟩
      · subst q; cases h3
    · rw [List.getElem?_set_ne hj] at h2
      exact .inr ⟨⟨j, u, h1, h2, h3⟩, fun e => hj (hh p e j u h1 h2 h3).symm⟩
  refine ⟨⟨st.ff, fun p o h n => ?_, st.th, fun p h => ?_⟩, er'.sub, by rw [List.length_set]; exact er.len, fun j o u h1 h2 => ?_, fun j k u w p h1 h2 h3 h4 h5 h6 => ?_⟩
  · exact st.hh p o h fun z => n (by
      obtain ⟨e, _⟩ := own_hand (i := i) z
      subst e
      exact ⟨i, s, hv, hi, ho⟩)
  · rcases own' p h with ⟨e, h1, h2⟩ | ⟨h, _⟩
    · subst e
      rcases st.ow p ⟨0, t, rfl, h1, h2⟩ with z | z
      · obtain ⟨e, _⟩ := own_hand (i := i) z
        exact .inl ⟨i, s, hv, hi, ho⟩
      · exact .inr z
    · exact .inl h
  · by_cases hj : i = j
    · subst hj
      rw [List.getElem?_set_self hil] at h2
      cases h2
      rw [hv] at h1
      cases h1
      rcases ht0 with q | q
      · exact er'.slot 0 _ _ rfl q
      · subst q; exact True.intro
    · rw [List.getElem?_set_ne hj] at h2
      have q := er.slot j o u h1 h2
      have keep : ∀ p vs', o = some (.ref p) → u.own = true → H p = some (.lst vs') → F p = none → H' p = some (.lst vs') ∧ F' p = none := fun p vs' e1 e2 h f => by
        subst e1
        obtain ⟨a, b⟩ := st.hh p _ h fun z => by
          obtain ⟨e, _⟩ := own_hand (i := i) z
          exact hj (hh p e j u h1 h2 e2).symm
        exact ⟨a, b f⟩
      cases u with
      | un => trivial
      | fz x => obtain ⟨w, e, rp⟩ := q; exact ⟨w, e, rp.mono st.ff⟩
      | ow ys => obtain ⟨p, ws, e, f, h, rp⟩ := q; obtain ⟨a, b⟩ := keep p ws e rfl h f; exact ⟨p, ws, e, b, a, rp.mono st.ff⟩
      | bx n => obtain ⟨p, ws, e, f, h, rp⟩ := q; obtain ⟨a, b⟩ := keep p ws e rfl h f; exact ⟨p, ws, e, b, a, rp⟩
  · by_cases hj : i = j
    · by_cases hk : i = k
      · exact hj ▸ hk
      · subst hj
        rw [List.getElem?_set_ne hk] at h4
        rw [hv] at h1
        cases h1
        exact (hh p rfl k w h2 h4 h6).symm
    · rw [List.getElem?_set_ne hj] at h3
      by_cases hk : i = k
      · subst hk
        rw [hv] at h2
        cases h2
        exact hh p rfl j u h1 h3 h5
      · rw [List.getElem?_set_ne hk] at h4
        exact er.dis j k u w p h1 h2 h3 h4 h5 h6
end
section
variable {c : Cn} {X : Cx} {W : WX} {pos p : Pos} {x : Str}
theorem call_box {m : GF} {σ : St} {ρ ρ1 : Env'} {F H F1 H1 : Hp} {Q : VK} {vs : List V} {v : List PV} {n i : Nat} {u : V} (hl : vs.length = n) (st : StpE c σ ρ F H ρ1 F1 H1) (rep : Reps c F1 vs v) (hu : σ[i]? = some (some u))
    (h : (boxCall m i v ρ1).run (OkE c σ ρ F H Q) (ErE c W σ ρ1 F1 H1)) : SpV c (n + 1) m (u :: vs) H1 Q (WE W σ) := by
  unfold boxCall at h
  cases hs : ρ1[i]? with
  | none => rw [hs] at h; exact h.elim
  | some s =>
    rw [hs] at h
    dsimp only at h
    by_cases ho : s.own = true
    · rw [if_pos ho] at h
      refine ⟨by rw [List.length_cons, hl], F1, s :: fzs v, er_hand st.2 hs ho hu rep, (m (s :: fzs v)).mono (fun r q w F' H' st' rp => ?_) (fun e q d F' H' st' ex => ?_) h⟩
      · exact q w F' H' (st.trans (er_back st.2 hs ho hu rep st'.1 st'.2 rfl)) rp
      · exact q d F' H' (er_back st.2 hs ho hu rep st'.1 st'.2 rfl) ex
    · rw [if_neg ho] at h
      exact h.elim
/-- f(box, ..), box in slot i -/
theorem ve_callB' {k j n i : Nat} {m : GF} {e : Expr} {es : List Expr} {ga : GA} (F : Fv X.prog X.w X.K X.mg X.base c k x (n + 1) m) (hr : Room j X.A) (hj : k ≤ j) (hg : Gl X x) (tk : Takes X W) (he0 : PE X e (tVar i)) (ha : PA X es (tA c W n ga))
    (hdb : (x == ("__debug__" : Str)) = false := by decide) (he : starEach (e :: es) X.env = (false, eval e X.env) :: starEach es X.env := by rfl) (hpl : (backTo pos (starEach es X.env)).any (·.1) = false := by rfl) :
    PE X (.Call (.Name x p) (e :: es) [] pos) (tE c W (eCallB m i ga)) := by
  obtain ⟨f, fd, ps, hp, hm, G, kp, hb⟩ := F.ex
  refine imp_PE (pe_callS G (hr.mono hj) hg hm kp hb (fun σ => passAt tk σ) (pa_cons he0 ha he) hdb he hpl) fun σ H Q ⟨ρ, F, er, z⟩ => ?_
  unfold eCallB at z
  by_cases ho : ownAt ρ i = true
  · rw [if_pos ho] at z
    obtain ⟨u, hu⟩ := ownAt_val er ho
    exact ⟨u, hu, tA_bind er z fun v ρ1 vs F1 H1 st rep hl h1 => call_box hl st rep hu h1⟩
  · rw [if_neg ho] at z
    exact z.elim

/-! ### calls with all arguments by keywords, in any order -/
theorem imp_PK {e : List Keyword} {t t' : TA} (h : PK X e t) (f : ∀ σ H Q, t' σ H Q → t σ H Q) : PK X e t' := ⟨fun pos pins s σ H Q I hw => h.run pos pins s σ H Q I (f σ H Q hw)⟩
theorem vk_nil : PK X [] (tA c W 0 aNil) := imp_PK pk_nil fun σ H Q ⟨ρ, F, er, z⟩ => z [] F H (StpE.refl er) .nil rfl
theorem vk_cons {a : Expr} {es : List Keyword} {n : Nat} {ga : GE} {gr : GA} {nm : Option Str} {kpos : Pos} (ha : PE X a (tE c W ga)) (hr : PK X es (tA c W n gr)) : PK X (⟨nm, a, kpos⟩ :: es) (tA c W (n + 1) (aCons ga gr)) :=
  imp_PK (pk_cons ha hr) fun σ H Q ⟨ρ, F, er, z⟩ => tE_bind er z fun v ρ1 w F1 H1 st rep h1 =>
    tA_bind st.2 h1 fun u ρ2 y F2 H2 st2 rep2 hl h2 => h2 (w :: y) F2 H2 (st.trans st2) (.cons (rep.mono st2.1.ff) rep2) (by rw [List.length_cons, hl])
end
/-- the i-th parameter is the (π i)-th keyword -/
def perm {α : Type} (d : α) (π : List Nat) (xs : List α) : List α := π.map fun i => xs.getD i d
structure FvK (P : Program) (w : World) (K : PySem.W.Frag) (mg : Str → Option Value) (base : Heap) (c : Cn) (k : Nat) (x : Str) (n : Nat) (m : GF) (ks : List Str) (π : List Nat) : Prop where
  ex : ∃ (f : Addr) (fd : FuncData) (ps : List Str), ps.length = n ∧ mg x = some (.ref f) ∧ FnOk P w K mg base (L2.CX P w) k f fd ps (SpV c n m) ∧ PySem.W.keepIn K (.ref f) = true ∧
    ∀ (s : Shared) (us : List Value), K.In s.heap → us.length = n → BindsTo s fd ⟨[], ks.zip us⟩ (ps.zip (perm .none π us))
def eCallK (m : GF) (π : List Nat) (ga : GA) : GE := fun ρ => (ga ρ).bind fun a => ((m (fzs (perm .non π a.1))).mapE fun e => (e.1, a.2)).bind fun r => .ret (r.1, a.2)
section
variable {c : Cn} {X : Cx} {W : WX} {pos p : Pos} {x : Str}
theorem Reps.perm {F : Hp} {vs : List V} {xs : List PV} (r : Reps c F vs xs) : ∀ π : List Nat, Reps c F (VL.perm .non π vs) (VL.perm .non π xs)
  | [] => .nil
  | i :: π => by
    refine .cons ?_ (Reps.perm r π)
    show Rep c F (vs.getD i .non) (xs.getD i .non)
    rw [List.getD_eq_getElem?_getD, List.getD_eq_getElem?_getD]
    cases e : xs[i]? with
    | some x =>
      obtain ⟨v, h1, h2⟩ := r.get e
      rw [h1]
      exact h2
    | none =>
      have h : vs[i]? = none := List.getElem?_eq_none (by rw [r.length]; exact List.getElem?_eq_none_iff.mp e)
      rw [h]
      exact .non
theorem vals_perm {vs : List V} {us : List Value} (r : Vals vs us) : ∀ π : List Nat, Vals (perm .non π vs) (perm .none π us)
  | [] => .nil
  | i :: π => by
    refine .cons ?_ (vals_perm r π)
    show L2.RelV (vs.getD i .non) (us.getD i .none)
    rw [List.getD_eq_getElem?_getD, List.getD_eq_getElem?_getD]
    cases e : vs[i]? with
    | some v =>
      obtain ⟨u, h1, h2⟩ := r.get e
      rw [h1]
      exact h2
    | none =>
      have h : us[i]? = none := r.none_of e
      rw [h]
      rfl
theorem ve_callK {k j n : Nat} {m : GF} {kws : List Keyword} {ga : GA} {ks : List Str} {π : List Nat} (F : FvK X.prog X.w X.K X.mg X.base c k x n m ks π) (hr : Room j X.A) (hj : k ≤ j) (hπ : π.length = n) (hg : Gl X x) (tk : Takes X W) (ha : PK X kws (tA c W n ga))
    (hall : (backToKw pos (keywordEach kws X.env)).all (·.1.isSome) = true := by rfl) (hks : (backToKw pos (keywordEach kws X.env)).filterMap (·.1) = ks := by rfl)
    (hpl : ((backTo pos (starEach [] X.env)).any (·.1) || (backToKw pos (keywordEach kws X.env)).any (·.1.isNone)) = false := by rfl)
    (hdb : (x == ("__debug__" : Str)) = false := by decide) : PE X (.Call (.Name x p) [] kws pos) (tE c W (eCallK m π ga)) := by
  obtain ⟨f, fd, ps, hp, hm, G, kp, hb⟩ := F.ex
  refine ⟨fun pins s σ H Q I ⟨ρ, F, er, z⟩ => ?_⟩
  refine wpAny_Call_Name_kw (ld_glob I hg hm ?_ hdb)
  refine PySem.W.callWith_KW0 (h₀ := X.base) I.ok.mod.kin kp hall (thn (ha.run pos pins s σ H _ I (tA_bind (R := fun vs H1 => vs.length = n ∧ SpV c n m (perm .non π vs) H1 Q (WE W σ)) er z fun v ρ1 vs F1 H1 st rep hl h1 =>
    ⟨hl, call_frozen (by unfold perm; rw [List.length_map]; exact hπ) st (rep.perm π) h1⟩)) fun us s1 ⟨vs, H1, I1, rv, hl, q⟩ => ⟨I1.kIn, ?_⟩) hpl
  rw [hks]
  have hu : us.length = n := by rw [← rv.length]; exact hl
  refine wpAny_call (codeAny_mono (G.run X.A X.stack s1 H1 ⟨[], ks.zip us⟩ (perm .none π us) (perm .non π vs) Q (WE W σ) (hr.mono hj) I1.env0 (hb s1 us I1.kIn hu) (vals_perm rv π) q) fun r s' hq => ?_)
  cases r with
  | error e => exact passAt tk σ pins H1 s1 e s' I1 hq
  | ok fl =>
    cases fl with
    | ret u => exact I1.after hq
    | next => exact False.elim hq
    | brk => exact False.elim hq
    | cont => exact False.elim hq
end

/-! ### targets -/
abbrev GG := PV → Env' → Option Env'
def gN (i : Nat) : GG := fun v ρ => some (ρ.set i (.fz v))
def setAll : List Nat → List PV → Env' → Option Env'
  | [], [], ρ => some ρ
  | i :: is, v :: vs, ρ => setAll is vs (ρ.set i (.fz v))
  | _, _, _ => none
def gT (is : List Nat) : GG := fun v ρ => match v with
  | .tup xs => if xs.length = is.length then setAll is xs ρ else none
  | _ => none
def wipeE (ρ : Env') : List Nat → Env'
  | [] => ρ
  | v :: vs => (wipeE ρ vs).set v .un
def backE (ρ ρ0 : Env') : List Nat → Env'
  | [] => ρ
  | v :: vs => (backE ρ ρ0 vs).set v (match ρ0[v]? with
    | some (.fz x) => .fz x
    | _ => .un)
/-- what a target does: only the slots is are written -/
def TgOk (c : Cn) (is : List Nat) (g : TG) (f : GG) : Prop := ∀ (F H : Hp) (σ : St) (ρ ρ' : Env') (x : V) (v : PV) (Q : St → Hp → Prop), ER c F H σ ρ → Rep c F x v → f v ρ = some ρ' →
  (∀ σ', ER c F H σ' ρ' → (∀ p, Own σ' ρ' p → Own σ ρ p) → wipe σ' is = wipe σ is → (∀ j, j ∉ is → σ'[j]? = σ[j]?) → Q σ' H) → g x σ H Q
section
variable {c : Cn} {F H : Hp} {σ : St} {ρ : Env'}
theorem ER.set (er : ER c F H σ ρ) {i : Nat} {w : V} {v : PV} (r : Rep c F w v) : ER c F H (σ.set i (some w)) (ρ.set i (.fz v)) := by
  refine ⟨er.sub, by rw [List.length_set, List.length_set]; exact er.len, fun j o s h1 h2 => ?_, fun j k s t p h1 h2 h3 h4 h5 h6 => ?_⟩
  · by_cases hj : i = j
    · subst hj
      have hi : i < ρ.length := by
        have := (List.getElem?_eq_some_iff.mp h2).1
        rwa [List.length_set] at this
      rw [List.getElem?_set_self hi] at h2
      rw [List.getElem?_set_self (by rw [er.len]; exact hi)] at h1
      cases h1
      cases h2
      exact ⟨w, rfl, r⟩
    · rw [List.getElem?_set_ne hj] at h1 h2
      exact er.slot j o s h1 h2
  · have ne : ∀ {j s}, (ρ.set i (.fz v))[j]? = some s → s.own = true → i ≠ j := fun {j s} h3 h5 hj => by
      subst hj
      have hi : i < ρ.length := by
        have := (List.getElem?_eq_some_iff.mp h3).1
        rwa [List.length_set] at this
      rw [List.getElem?_set_self hi] at h3
      cases h3
      cases h5
    have n1 := ne h3 h5
    have n2 := ne h4 h6
    rw [List.getElem?_set_ne n1] at h1 h3
    rw [List.getElem?_set_ne n2] at h2 h4
    exact er.dis j k s t p h1 h2 h3 h4 h5 h6
theorem own_set {i : Nat} {w : V} {v : PV} {p : Addr} (h : Own (σ.set i (some w)) (ρ.set i (.fz v)) p) : Own σ ρ p := by
  obtain ⟨j, s, h1, h2, h3⟩ := h
  by_cases hj : i = j
  · subst hj
    have hi : i < ρ.length := by
      have := (List.getElem?_eq_some_iff.mp h2).1
      rwa [List.length_set] at this
    rw [List.getElem?_set_self hi] at h2
    cases h2
    cases h3
  · rw [List.getElem?_set_ne hj] at h1 h2
    exact ⟨j, s, h1, h2, h3⟩
theorem wipe_get (σ : St) : ∀ (vs : List Nat) (j : Nat), (wipe σ vs)[j]? = if j ∈ vs then (if j < σ.length then some none else none) else σ[j]?
  | [], j => by simp [wipe]
  | v :: vs, j => by
    unfold wipe
    by_cases hj : v = j
    · subst hj
      by_cases hl : v < σ.length
      · rw [List.getElem?_set_self (by rw [wipe_length]; exact hl)]
        simp [hl]
      · rw [List.getElem?_eq_none (by rw [List.length_set, wipe_length]; omega)]
        simp [hl]
    · rw [List.getElem?_set_ne hj, wipe_get σ vs j]
      simp [Ne.symm hj]
theorem wipeE_length (ρ : Env') : ∀ vs : List Nat, (wipeE ρ vs).length = ρ.length
  | [] => rfl
  | v :: vs => by unfold wipeE; rw [List.length_set, wipeE_length ρ vs]
theorem wipeE_get (ρ : Env') : ∀ (vs : List Nat) (j : Nat), (wipeE ρ vs)[j]? = if j ∈ vs then (if j < ρ.length then some .un else none) else ρ[j]?
  | [], j => by simp [wipeE]
  | v :: vs, j => by
    unfold wipeE
    by_cases hj : v = j
    · subst hj
      by_cases hl : v < ρ.length
      · rw [List.getElem?_set_self (by rw [wipeE_length]; exact hl)]
        simp [hl]
      · rw [List.getElem?_eq_none (by rw [List.length_set, wipeE_length]; omega)]
        simp [hl]
    · rw [List.getElem?_set_ne hj, wipeE_get ρ vs j]
      simp [Ne.symm hj]
theorem backE_length (ρ ρ0 : Env') : ∀ vs : List Nat, (backE ρ ρ0 vs).length = ρ.length
  | [] => rfl
  | v :: vs => by unfold backE; rw [List.length_set, backE_length ρ ρ0 vs]
theorem backE_get (ρ ρ0 : Env') : ∀ (vs : List Nat) (j : Nat), (backE ρ ρ0 vs)[j]? = if j ∈ vs then (if j < ρ.length then some (match ρ0[j]? with
    | some (.fz x) => .fz x
    | _ => .un) else none) else ρ[j]?
  | [], j => by simp [backE]
  | v :: vs, j => by
    unfold backE
    by_cases hj : v = j
    · subst hj
      by_cases hl : v < ρ.length
      · rw [List.getElem?_set_self (by rw [backE_length]; exact hl)]
        simp [hl]
      · rw [List.getElem?_eq_none (by rw [List.length_set, backE_length]; omega)]
        simp [hl]
    · rw [List.getElem?_set_ne hj, backE_get ρ ρ0 vs j]
      simp [Ne.symm hj]
theorem wipe_eq {σ σ' : St} {vs : List Nat} (hl : σ'.length = σ.length) (h : ∀ j, j ∉ vs → σ'[j]? = σ[j]?) : wipe σ' vs = wipe σ vs := by
  apply List.ext_getElem?
  intro j
  rw [wipe_get, wipe_get, hl]
  by_cases hj : j ∈ vs
  · rw [if_pos hj, if_pos hj]
  · rw [if_neg hj, if_neg hj]
    exact h j hj
theorem ER.wipe (er : ER c F H σ ρ) (vs : List Nat) : ER c F H (L2.wipe σ vs) (wipeE ρ vs) := by
  refine ⟨er.sub, by rw [wipe_length, wipeE_length]; exact er.len, fun j o s h1 h2 => ?_, fun j k s t p h1 h2 h3 h4 h5 h6 => ?_⟩
  · rw [wipe_get] at h1
    rw [wipeE_get] at h2
    by_cases hj : j ∈ vs
    · rw [if_pos hj] at h2
      split at h2
      · cases h2; exact True.intro
      · cases h2
    · rw [if_neg hj] at h1 h2
      exact er.slot j o s h1 h2
  · have get : ∀ {j s}, (wipeE ρ vs)[j]? = some s → s.own = true → j ∉ vs ∧ ρ[j]? = some s := fun {j s} h3 h5 => by
      rw [wipeE_get] at h3
      by_cases hj : j ∈ vs
      · rw [if_pos hj] at h3
        split at h3
        · cases h3; cases h5
        · cases h3
      · rw [if_neg hj] at h3
        exact ⟨hj, h3⟩
    obtain ⟨n1, g3⟩ := get h3 h5
    obtain ⟨n2, g4⟩ := get h4 h6
    rw [wipe_get, if_neg n1] at h1
    rw [wipe_get, if_neg n2] at h2
    exact er.dis j k s t p h1 h2 g3 g4 h5 h6
theorem own_wipe {vs : List Nat} {p : Addr} (h : Own (L2.wipe σ vs) (wipeE ρ vs) p) : Own σ ρ p := by
  obtain ⟨j, s, h1, h2, h3⟩ := h
  rw [wipeE_get] at h2
  rw [wipe_get] at h1
  by_cases hj : j ∈ vs
  · rw [if_pos hj] at h2
    split at h2
    · cases h2; cases h3
    · cases h2
  · rw [if_neg hj] at h1 h2
    exact ⟨j, s, h1, h2, h3⟩
theorem tg_name (i : Nat) : TgOk c [i] (gName i) (gN i) := fun F H σ ρ ρ' x v Q er r e q => by
  cases e
  refine q (σ.set i (some x)) (er.set r) (fun p h => own_set h) (wipe_eq (by rw [List.length_set]) fun j hj => ?_) fun j hj => ?_
  · exact List.getElem?_set_ne (by simpa using Ne.symm (by simpa using hj))
  · exact List.getElem?_set_ne (by simpa using Ne.symm (by simpa using hj))
/-- several names, from the left -/
inductive TgsOk (c : Cn) : List Nat → TGs → Prop
  | nil : TgsOk c [] gNil
  | cons {i : Nat} {is : List Nat} {g : TGs} (r : TgsOk c is g) : TgsOk c (i :: is) (gCons (gName i) g)
theorem tgs_run {is : List Nat} {g : TGs} (h : TgsOk c is g) : ∀ {σ : St} {ρ ρ' : Env'} {ws : List V} {vs : List PV} {Q : St → Hp → Prop}, ER c F H σ ρ → Reps c F ws vs → setAll is vs ρ = some ρ' →
    (∀ σ', ER c F H σ' ρ' → (∀ p, Own σ' ρ' p → Own σ ρ p) → σ'.length = σ.length → (∀ j, j ∉ is → σ'[j]? = σ[j]?) → Q σ' H) → g ws σ H Q := by
  induction h with
  | nil =>
    intro σ ρ ρ' ws vs Q er r e q
    cases r with
    | nil => cases e; exact ⟨rfl, q σ er (fun _ h => h) rfl fun _ _ => rfl⟩
    | cons h r => cases e
  | @cons i is g r ih =>
    intro σ ρ ρ' ws vs Q er rp e q
    cases rp with
    | nil => cases e
    | @cons w v ws vs h rs =>
      refine ⟨w, ws, rfl, ih (er.set h) rs e fun σ' er' ow hl nj => q σ' er' (fun p h => own_set (ow p h)) (by rw [hl, List.length_set]) fun j hj => ?_⟩
      rw [nj j fun z => hj (List.mem_cons_of_mem _ z), List.getElem?_set_ne fun z : i = j => hj (by rw [← z]; exact List.mem_cons_self)]
theorem tg_tup {is : List Nat} {g : TGs} {K : PySem.W.Frag} (hk : c.K = K) (h : TgsOk c is g) : TgOk c is (gTup K is.length g) (gT is) := fun F H σ ρ ρ' x v Q er r e q => by
  cases r with
  | @tup a vs xs hF rs =>
    have e' : (if xs.length = is.length then setAll is xs ρ else none) = some ρ' := e
    by_cases hl : xs.length = is.length
    · rw [if_pos hl] at e'
      refine ⟨a, vs, rfl, SqT.of (er.sub _ _ hF), by rw [rs.length]; exact hl, tgs_run h er rs e' fun σ' er' ow hl nj => q σ' er' ow (wipe_eq hl nj) nj⟩
    · rw [if_neg hl] at e'
      cases e'
  | _ => cases e
end
end VL

set_option Elab.async false
set_option linter.all false
set_option maxRecDepth 100000
set_option maxHeartbeats 1000000
/-! VL, part 6: what is walked, comprehensions. -/
namespace VL
open PySem PySem.Spec PyProof.Rows L2

/-! ### what is walked: its items, from the frozen part F -/
structure Wk (c : Cn) (J : It) (F : Hp) (xs : List PV) : Prop where
  go : ∀ (i : Nat) (x : PV) (H : Hp), xs[i]? = some x → Same F H → J.go i H ∧ ∀ (w : V) (H' F1 : Hp), Same F F1 → Same F1 H → J.yld i H w H' → ∃ F', Grow F1 H F' H' ∧ Rep c F' w x
  stop : ∀ H, Same F H → J.stop xs.length H
abbrev GI := Env' → Wp XE' (List PV × Env')
def OkI (c : Cn) (σ : St) (ρ : Env') (F H : Hp) (R : It → Hp → Prop) : List PV × Env' → Prop := fun r => ∀ J F' H', StpE c σ ρ F H r.2 F' H' → Wk c J F' r.1 → R J H'
def tI (c : Cn) (W : WX) (g : GI) : TI := fun σ H R => ∃ ρ F, ER c F H σ ρ ∧ (g ρ).run (OkI c σ ρ F H R) (ErE c W σ ρ F H)
/-- the items of a list, a tuple, a text -/
def items : PV → Option (List PV)
  | .lst _ xs => some xs
  | .tup xs => some xs
  | .str x => some (x.cps.toList.map fun k => .str ⟨#[k]⟩)
  | .scr ns => some (ns.map .int)
  | _ => none
def iSeq (g : GE) : GI := fun ρ => (g ρ).bind fun a => lift' (items a.1) a.2
def iRange (n : PV) : Option (List PV) := match n with
  | .int n => if -4611686018427387904 ≤ n ∧ n < 4611686018427387904 then some ((List.range n.toNat).map fun (k : Nat) => PV.int k) else none
  | _ => none
def iRng (g : GE) : GI := fun ρ => (g ρ).bind fun a => lift' (iRange a.1) a.2
def iRange2 (m n : PV) : Option (List PV) := match m, n with
  | .int m, .int n => if -4611686018427387904 ≤ m ∧ m < 4611686018427387904 ∧ -4611686018427387904 ≤ n ∧ n < 4611686018427387904 then some ((List.range (n - m).toNat).map fun (k : Nat) => PV.int (m + k)) else none
  | _, _ => none
def iRng2' (g h : GE) : GI := fun ρ => (g ρ).bind fun a => (h a.2).bind fun b => lift' (iRange2 a.1 b.1) b.2
section
variable {c : Cn}
theorem wk_list {F : Hp} {a : Addr} {vs : List V} {xs : List PV} (h : SqL c.K F a vs) (r : Reps c F vs xs) (uniq : ∀ (H : Hp) (ys : List V), Same F H → SqL c.K H a ys → True) : Wk c (Itl c.K a) F xs where
  go := fun i x H hx s => by
    obtain ⟨v, h1, h2⟩ := r.get hx
    exact ⟨⟨vs, v, s.seq h, h1⟩, fun w H' F1 s1 s2 ⟨e, q⟩ => by
      subst e
      have e2 := q vs (s.seq h)
      rw [h1] at e2
      cases e2
      exact ⟨F1, Grow.refl s2, h2.mono s1⟩⟩
  stop := fun H s => ⟨vs, s.seq h, by rw [r.length]; exact Nat.le_refl _⟩
theorem Same.sqT {K : PySem.W.Frag} {H H' : Hp} {a : Addr} {xs : List V} (e : Same H H') (h : SqT K H a xs) : SqT K H' a xs := by
  rcases h with (h | ⟨o, h⟩) | h
  · exact .inl (.inl (e _ _ h))
  · exact .inl (.inr ⟨o, e _ _ h⟩)
  · exact .inr h
theorem wk_tup {F : Hp} {a : Addr} {vs : List V} {xs : List PV} (h : SqT c.K F a vs) (r : Reps c F vs xs) : Wk c (Itt c.K a) F xs where
  go := fun i x H hx s => by
    obtain ⟨v, h1, h2⟩ := r.get hx
    exact ⟨⟨vs, v, Same.sqT s h, h1⟩, fun w H' F1 s1 s2 ⟨e, q⟩ => by
      subst e
      have e2 := q vs (Same.sqT s h)
      rw [h1] at e2
      cases e2
      exact ⟨F1, Grow.refl s2, h2.mono s1⟩⟩
  stop := fun H s => ⟨vs, Same.sqT s h, by rw [r.length]; exact Nat.le_refl _⟩
theorem wk_str {F : Hp} (x : Str) : Wk c (Its x) F (x.cps.toList.map fun k => PV.str ⟨#[k]⟩) where
  go := fun i y H hy s => by
    rw [List.getElem?_map] at hy
    obtain ⟨k, h1, rfl⟩ := Option.map_eq_some_iff.mp hy
    have h2 : x.cps[i]? = some k := by rw [← Array.getElem?_toList]; exact h1
    refine ⟨(Array.getElem?_eq_some_iff.mp h2).1, fun w H' F1 s1 s2 ⟨e, k', h3, e2⟩ => ?_⟩
    subst e
    rw [h2] at h3
    cases h3
    subst e2
    exact ⟨F1, Grow.refl s2, .str _⟩
  stop := fun H s => by
    show x.cps.size ≤ _
    rw [List.length_map, Array.length_toList]
    exact Nat.le_refl _
theorem wk_rng {F : Hp} (lo : Int) (n : Nat) : Wk c (Itr lo n) F ((List.range n).map fun (k : Nat) => PV.int (lo + k)) where
  go := fun i y H hy s => by
    rw [List.getElem?_map] at hy
    obtain ⟨k, h1, rfl⟩ := Option.map_eq_some_iff.mp hy
    obtain ⟨h2, h3⟩ := List.getElem?_eq_some_iff.mp h1
    rw [List.length_range] at h2
    rw [List.getElem_range] at h3
    subst h3
    refine ⟨h2, fun w H' F1 s1 s2 ⟨e, e2⟩ => ?_⟩
    subst e e2
    exact ⟨F1, Grow.refl s2, .int _⟩
  stop := fun H s => by
    show n ≤ _
    rw [List.length_map, List.length_range]
    exact Nat.le_refl _
end
section
variable {c : Cn} {X : Cx} {W : WX} {tg a b : Expr} {ga gb : GE} {pos p : Pos}
theorem imp_PI {iter : Expr} {w w' : TI} (h : PI X tg iter w) (f : ∀ σ H R, w' σ H R → w σ H R) : PI X tg iter w' := ⟨fun pins s σ H R I hw => h.run pins s σ H R I (f σ H R hw)⟩
/-- a list, a tuple or a text -/
def iAny (K : PySem.W.Frag) (tl : TE) : TI := fun σ H R => tl σ H fun x H1 => (∃ a xs, x = .ref a ∧ SqL K H1 a xs ∧ R (Itl K a) H1) ∨ ((∃ a xs, x = .ref a ∧ SqT K H1 a xs ∧ R (Itt K a) H1) ∨ ∃ y, x = .str y ∧ R (Its y) H1)
theorem pi_any {l : Expr} {tl : TE} (hl : PE X l tl) : PI X tg l (iAny X.K tl) := by
  refine ⟨fun pins s σ H R I h => ?_⟩
  refine thn (hl.run pins s σ H _ I h) fun v s1 z => ?_
  obtain ⟨x, H1, I1, r1, q1⟩ := z
  rcases q1 with ⟨a, xs, e, hq, q⟩ | ⟨a, xs, e, hq, q⟩ | ⟨y, e, q⟩
  · subst e
    cases r1
    obtain ⟨its, rv, pl, hz⟩ := I1.list hq
    exact wpAny_pyIter_list pl.isList (pi_one (tk := s1.toks) I1 _ (turn_list a _) ⟨_, Heap.get?_push_size _ rfl, rfl, rfl⟩ q)
  · subst e
    cases r1
    obtain ⟨its, rv, pl, hz⟩ := I1.tuple hq
    exact wpAny_pyIter_tuple (show s1.heap.IsTuple a its.toArray from pl) (pi_one (tk := s1.toks) I1 _ (turn_tuple a _) ⟨_, Heap.get?_push_size _ rfl, rfl, rfl⟩ q)
  · subst e
    obtain ⟨t, rfl⟩ := r1
    cases ha : y.cps.all (· < 128) with
    | false => exact wpAny_pyIter_wide ha (pi_one (tk := s1.toks) I1 _ (turn_str _ y t "str_iterator" (.inr rfl)) ⟨_, Heap.get?_push_size _ rfl, rfl, rfl⟩ q)
    | true => exact wpAny_pyIter_ascii ha (pi_one (tk := s1.toks) I1 _ (turn_str _ y t "str_ascii_iterator" (.inl rfl)) ⟨_, Heap.get?_push_size _ rfl, rfl, rfl⟩ q)
theorem vi_seq (hk : c.K = X.K) (ha : PE X a (tE c W ga)) : PI X tg a (tI c W (iSeq ga)) := imp_PI (pi_any ha) fun σ H R ⟨ρ, F, er, z⟩ => by
  refine tE_bind er z fun v ρ1 w F1 H1 st rep h1 => ?_
  obtain ⟨xs, e, h1⟩ := lift'_run h1
  rw [← hk]
  cases rep with
  | lst h r _ => cases e; exact .inl ⟨_, _, rfl, SqL.of (st.2.sub _ _ h), h1 _ F1 H1 st (wk_list (SqL.of h) r fun _ _ _ _ => trivial)⟩
  | scr h => cases e; exact .inl ⟨_, _, rfl, st.2.sub.seq h, h1 _ F1 H1 st (wk_list h (Reps.ofInts _) fun _ _ _ _ => trivial)⟩
  | tup h r => cases e; exact .inr (.inl ⟨_, _, rfl, SqT.of (st.2.sub _ _ h), h1 _ F1 H1 st (wk_tup (SqT.of h) r)⟩)
  | str x => cases e; exact .inr (.inr ⟨x, rfl, h1 _ F1 H1 st (wk_str x)⟩)
  | _ => cases e
theorem vi_rng (hg : Gl X "range") (hm : X.mg "range" = none) (ha : PE X a (tE c W ga)) (hs : starEach [a] X.env = [(false, eval a X.env)] := by rfl) : PI X tg (.Call (.Name "range" p) [a] [] pos) (tI c W (iRng ga)) :=
  imp_PI (pi_range1 hg hm (va_cons ha va_nil hs) hs) fun σ H R ⟨ρ, F, er, z⟩ => by
    refine tA_bind (k := fun a => lift' (iRange (a.1.headD .non)) a.2) (g := aCons ga aNil) er z fun v ρ1 ws F1 H1 st rep hl h1 => ?_
    obtain ⟨xs, e, h1⟩ := lift'_run h1
    cases rep with
    | nil => cases hl
    | @cons w v ws vs h r =>
      cases r with
      | cons _ _ => cases hl
      | nil =>
        cases h with
        | int n =>
          have e' : (if -4611686018427387904 ≤ n ∧ n < 4611686018427387904 then some ((List.range n.toNat).map fun (k : Nat) => PV.int k) else none) = some xs := e
          by_cases hn : -4611686018427387904 ≤ n ∧ n < 4611686018427387904
          · rw [if_pos hn] at e'
            cases e'
            refine ⟨n, rfl, by have := hn.1; omega, by have := hn.2; omega, h1 _ F1 H1 st ?_⟩
            have q := wk_rng (c := c) (F := F1) 0 n.toNat
            simpa using q
          · rw [if_neg hn] at e'
            cases e'
        | _ => cases e
theorem vi_rng2 (hg : Gl X "range") (hm : X.mg "range" = none) (ha : PE X a (tE c W ga)) (hb : PE X b (tE c W gb)) (hs : starEach [a, b] X.env = [(false, eval a X.env), (false, eval b X.env)] := by rfl) (hs2 : starEach [b] X.env = [(false, eval b X.env)] := by rfl) :
    PI X tg (.Call (.Name "range" p) [a, b] [] pos) (tI c W (iRng2' ga gb)) :=
  imp_PI (pi_range2 hg hm (va_cons ha (va_cons hb va_nil hs2) (by rw [hs, hs2])) hs hs2) fun σ H R ⟨ρ, F, er, z⟩ => by
    refine tA_bind (k := fun a => lift' (iRange2 (a.1.headD .non) (a.1.tail.headD .non)) a.2) (g := aCons ga (aCons gb aNil)) er z fun v ρ1 ws F1 H1 st rep hl h1 => ?_
    obtain ⟨xs, e, h1⟩ := lift'_run h1
    cases rep with
    | nil => cases hl
    | @cons w v ws vs h r =>
      cases r with
      | nil => cases hl
      | @cons w2 v2 ws vs h2 r =>
        cases r with
        | cons _ _ => cases hl
        | nil =>
          cases h with
          | int m =>
            cases h2 with
            | int n =>
              have e' : (if -4611686018427387904 ≤ m ∧ m < 4611686018427387904 ∧ -4611686018427387904 ≤ n ∧ n < 4611686018427387904 then some ((List.range (n - m).toNat).map fun (k : Nat) => PV.int (m + k)) else none) = some xs := e
              by_cases hn : -4611686018427387904 ≤ m ∧ m < 4611686018427387904 ∧ -4611686018427387904 ≤ n ∧ n < 4611686018427387904
              · rw [if_pos hn] at e'
                cases e'
                exact ⟨m, n, rfl, by obtain ⟨a, b, d, e⟩ := hn; exact ⟨by omega, by omega, by omega, by omega⟩, h1 _ F1 H1 st (wk_rng m (n - m).toNat)⟩
              · rw [if_neg hn] at e'
                cases e'
            | _ => cases e
          | _ => cases h2 <;> cases e
end

/-! ### comprehensions -/
def noEx {α : Type} (m : Wp XE' α) : Wp XE' α := ⟨fun K _ => m.run K fun _ => False, fun h _ x => m.mono h (fun _ z => z) x⟩
@[simp] theorem noEx_ret {α : Type} (a : α) : noEx (.ret a) = .ret a := (rfl)
@[simp] theorem noEx_run {α : Type} (m : Wp XE' α) (K : α → Prop) (E : XE' → Prop) : (noEx m).run K E = m.run K fun _ => False := (rfl)
def lcLoop (is : List Nat) (f : GG) (gt : GT) (ge : GE) : List PV → Env' → Wp XE' (List PV × Env')
  | [], ρ => .ret ([], ρ)
  | x :: xs, ρ => match f x (wipeE ρ is) with
    | none => .stuck
    | some ρ1 => (gt ρ1).bind fun b => if b.1 = true then (ge b.2).bind fun y => (lcLoop is f gt ge xs y.2).bind fun r => .ret (y.1 :: r.1, r.2) else lcLoop is f gt ge xs b.2
def frozenAt (ρ : Env') (is : List Nat) : Bool := is.all fun i => !ownAt ρ i
def lLc (is : List Nat) (gi : GI) (f : GG) (gt : GT) (ge : GE) : GL := fun ρ => (gi ρ).bind fun a => if a.1.length ≤ sizeLine ∧ frozenAt a.2 is = true then (noEx (lcLoop is f gt ge a.1 a.2)).bind fun r => .ret (r.1, backE r.2 a.2 is) else .stuck
def W0 : WX := fun _ _ _ _ => False
theorem takes_W0 {X : Cx} : Takes X W0 := takes0
def tTs (c : Cn) (W : WX) (g : GT) : TT := tT c W g
def gYes : GT := fun ρ => .ret (true, ρ)
section
variable {c : Cn} {X : Cx} {W : WX}
theorem imp_PTs {e : List Expr} {t t' : TT} (h : PTs X e t) (f : ∀ σ H Q, t' σ H Q → t σ H Q) : PTs X e t' := ⟨fun pins s σ H Q I hw => h.run pins s σ H Q I (f σ H Q hw)⟩
theorem vts_nil : PTs X [] (tT c W gYes) := imp_PTs pts_nil fun σ H Q ⟨ρ, F, er, z⟩ => z F H (StpE.refl er)
theorem vts_one {e : Expr} {g : GT} (h : PT X e (tT c W g)) : PTs X [e] (tT c W g) := pts_one h
/-- one more that is excepted -/
theorem Stp.add {F H F' H' : Hp} {S S' : Addr → Prop} (D : Addr) (st : Stp F H S F' H' S') : Stp F H (fun p => S p ∨ p = D) F' H' (fun p => S' p ∨ p = D) :=
  ⟨st.ff, fun p o h n => st.hh p o h fun z => n (.inl z), st.th, fun p h => h.elim (fun z => (st.ow p z).imp .inl id) fun z => .inl (.inr z)⟩
theorem er_upd {F H : Hp} {σ : St} {ρ : Env'} {D : Addr} {o : HO} (er : ER c F H σ ρ) (hF : F D = none) (n : ¬ Own σ ρ D) : ER c F (upd H D o) σ ρ := by
  refine ⟨fun b u h => by rw [upd_ne (ne_of_none h hF)]; exact er.sub _ _ h, er.len, fun j o' s h1 h2 => ?_, er.dis⟩
  have q := er.slot j o' s h1 h2
  have ne : ∀ p, o' = some (.ref p) → s.own = true → p ≠ D := fun p e1 e2 e3 => n (by subst e3; subst e1; exact ⟨j, s, h1, h2, e2⟩)
  cases s with
  | un => trivial
  | fz x => exact q
  | ow ys => obtain ⟨p, ws, e, f, h, rp⟩ := q; exact ⟨p, ws, e, f, by rw [upd_ne (ne p e rfl)]; exact h, rp⟩
  | bx n => obtain ⟨p, ws, e, f, h, rp⟩ := q; exact ⟨p, ws, e, f, by rw [upd_ne (ne p e rfl)]; exact h, rp⟩
/-- the slots of a block's own names are put back -/
theorem er_back' {F H F' H' : Hp} {σ : St} {ρ0 ρ : Env'} {is : List Nat} (er0 : ER c F H σ ρ0) (ff : Same F F') (er : ER c F' H' (wipe σ is) ρ) (fr : frozenAt ρ0 is = true) : ER c F' H' σ (backE ρ ρ0 is) ∧ ∀ p, Own σ (backE ρ ρ0 is) p → Own (wipe σ is) ρ p := by
  have get : ∀ {j s}, (backE ρ ρ0 is)[j]? = some s → s.own = true → j ∉ is ∧ ρ[j]? = some s := fun {j s} h3 h5 => by
    rw [backE_get] at h3
    by_cases hj : j ∈ is
    · rw [if_pos hj] at h3
      split at h3
      · cases h3
        split at h5 <;> cases h5
      · cases h3
    · rw [if_neg hj] at h3
      exact ⟨hj, h3⟩
  have nw : ∀ {j : Nat}, j ∉ is → (wipe σ is)[j]? = σ[j]? := fun {j} hj => by rw [wipe_get, if_neg hj]
  refine ⟨⟨er.sub, by rw [backE_length, ← er.len, wipe_length], fun j o s h1 h2 => ?_, fun j k s t p h1 h2 h3 h4 h5 h6 => ?_⟩, fun p ⟨j, s, h1, h2, h3⟩ => ?_⟩
  · rw [backE_get] at h2
    by_cases hj : j ∈ is
    · rw [if_pos hj] at h2
      split at h2
      · cases h2
        split
        · rename_i x hx
          obtain ⟨w, e, r⟩ := er0.slot j o _ h1 hx
          exact ⟨w, e, r.mono ff⟩
        · trivial
      · cases h2
    · rw [if_neg hj] at h2
      exact er.slot j o s (by rw [nw hj]; exact h1) h2
  · obtain ⟨n1, g3⟩ := get h3 h5
    obtain ⟨n2, g4⟩ := get h4 h6
    exact er.dis j k s t p (by rw [nw n1]; exact h1) (by rw [nw n2]; exact h2) g3 g4 h5 h6
  · obtain ⟨n1, g⟩ := get h2 h3
    exact ⟨j, s, by rw [nw n1]; exact h1, g, h3⟩
theorem wipe_idem (σ : St) (is : List Nat) : wipe (wipe σ is) is = wipe σ is := wipe_eq (wipe_length σ is) fun j hj => by rw [wipe_get, if_neg hj]
theorem backE_wipe (ρ ρ0 : Env') (is : List Nat) : backE (wipeE ρ is) ρ0 is = backE ρ ρ0 is := by
  apply List.ext_getElem?
  intro j
  rw [backE_get, backE_get, wipeE_length, wipeE_get]
  by_cases hj : j ∈ is
  · rw [if_pos hj, if_pos hj]
  · rw [if_neg hj, if_neg hj, if_neg hj]
theorem Stp.less {F H F' H' : Hp} {S S' S2 : Addr → Prop} (st : Stp F H S F' H' S') (h : ∀ p, S2 p → S' p) : Stp F H S F' H' S2 := ⟨st.ff, st.hh, st.th, fun p z => st.ow p (h p z)⟩
theorem Stp.more {F H F' H' : Hp} {S S' S2 : Addr → Prop} (st : Stp F H S F' H' S') (h : ∀ p, S p → S2 p) : Stp F H S2 F' H' S' := ⟨st.ff, fun p o e n => st.hh p o e fun z => n (h p z), st.th, fun p z => (st.ow p z).imp (h p) id⟩
theorem Stp.put {F H : Hp} {S : Addr → Prop} {D : Addr} {o o' : HO} (h : H D = some o) : Stp F H (fun p => S p ∨ p = D) F (upd H D o') (fun p => S p ∨ p = D) := by
  refine ⟨Same.refl F, fun p u e n => ⟨?_, fun z => z⟩, fun p u e => ?_, fun p z => .inl z⟩
  · rw [upd_ne fun z => n (.inr z)]; exact e
  · by_cases hp : p = D
    · subst hp; exact ⟨o', upd_same⟩
    · exact ⟨u, by rw [upd_ne hp]; exact e⟩
/-- where a comprehension stands behind i turns -/
structure LcAt (c : Cn) (is : List Nat) (f : GG) (gt : GT) (ge : GE) (σ : St) (ρ1 : Env') (F1 H1 : Hp) (D : Addr) (xs : List PV) (Z : List PV × Env' → Prop) (i : Nat) (H' : Hp) : Prop where
  ex : ∃ (acc : List V) (accP : List PV) (ρ' : Env') (F' : Hp), acc.length ≤ i ∧ H' D = some (.lst acc) ∧ F' D = none ∧ ¬ Own (wipe σ is) (wipeE ρ' is) D ∧
    Stp F1 H1 (Own (wipe σ is) (wipeE ρ1 is)) F' H' (fun p => Own (wipe σ is) (wipeE ρ' is) p ∨ p = D) ∧ ER c F' H' (wipe σ is) (wipeE ρ' is) ∧ Reps c F' acc accP ∧
    (lcLoop is f gt ge (xs.drop i) ρ').run (fun q => Z (accP ++ q.1, q.2)) (fun _ => False)
theorem tT_bind0 {σ : St} {ρ : Env'} {F H : Hp} {g : GT} {α : Type} {k : Bool × Env' → Wp XE' α} {R : Bool → Hp → Prop} {Z : α → Prop} (er : ER c F H σ ρ) (h : ((g ρ).bind k).run Z fun _ => False)
    (hk : ∀ v ρ1 F1 H1, StpE c σ ρ F H ρ1 F1 H1 → ((k (v, ρ1)).run Z fun _ => False) → R v H1) : tT c W0 g σ H R :=
  ⟨ρ, F, er, (g ρ).mono (fun r h1 F1 H1 st => hk r.1 r.2 F1 H1 st h1) (fun _ z => z.elim) h⟩
theorem tE_bind0 {σ : St} {ρ : Env'} {F H : Hp} {g : GE} {α : Type} {k : PV × Env' → Wp XE' α} {R : VK} {Z : α → Prop} (er : ER c F H σ ρ) (h : ((g ρ).bind k).run Z fun _ => False)
    (hk : ∀ v ρ1 w F1 H1, StpE c σ ρ F H ρ1 F1 H1 → Rep c F1 w v → ((k (v, ρ1)).run Z fun _ => False) → R w H1) : tE c W0 g σ H R :=
  ⟨ρ, F, er, (g ρ).mono (fun r h1 w F1 H1 st rep => hk r.1 r.2 w F1 H1 st rep h1) (fun _ z => z.elim) h⟩
theorem lc_turn {is : List Nat} {g : TG} {f : GG} {gt : GT} {ge : GE} {σ : St} {ρ1 : Env'} {F1 H1 : Hp} {D : Addr} {xs : List PV} {Z : List PV × Env' → Prop} {i : Nat} {H' : Hp} {J : It} (wk : Wk c J F1 xs) (hz : xs.length ≤ sizeLine) (hgf : TgOk c is g f)
    (h : LcAt c is f gt ge σ ρ1 F1 H1 D xs Z i H') (hi : i < xs.length) : J.go i H' ∧ ∀ x Hy, J.yld i H' x Hy → g x (wipe σ is) Hy fun σ2 H2 => wipe σ2 is = wipe σ is ∧ tT c W0 gt σ2 H2 fun b H3 =>
      if b = true then tE c W0 ge σ2 H3 fun y H4 => ∃ acc, H4 D = some (.lst acc) ∧ acc.length < sizeLine ∧ LcAt c is f gt ge σ ρ1 F1 H1 D xs Z (i + 1) (upd H4 D (.lst (acc ++ [y]))) else LcAt c is f gt ge σ ρ1 F1 H1 D xs Z (i + 1) H3 := by
  obtain ⟨acc, accP, ρ', F', hl, hD, hF, no, st, er, rep, run⟩ := h.ex
  have hx : xs[i]? = some xs[i] := List.getElem?_eq_getElem hi
  have same : Same F1 H' := st.ff.trans er.sub
  obtain ⟨go, yl⟩ := wk.go i xs[i] H' hx same
  refine ⟨go, fun x Hy y => ?_⟩
  obtain ⟨Fy, gr, rx⟩ := yl x Hy F' st.ff er.sub y
  have ery := er.grow gr
  rw [List.drop_eq_getElem_cons hi] at run
  unfold lcLoop at run
  cases hf : f xs[i] (wipeE ρ' is) with
  | none => rw [hf] at run; exact run.elim
  | some ρ2 =>
    rw [hf] at run
    dsimp only at run
    refine hgf Fy Hy (wipe σ is) (wipeE ρ' is) ρ2 x xs[i] _ ery rx hf fun σ2 er2 ow2 w2 nj => ?_
    have w3 : wipe σ2 is = wipe σ is := w2.trans (wipe_idem σ is)
    refine ⟨w3, ?_⟩
    have hDy : Hy D = some (.lst acc) := gr.hh _ _ hD
    have hFy : Fy D = none := gr.nf _ _ hD hF
    have no2 : ¬ Own σ2 ρ2 D := fun z => no (ow2 D z)
    have stC : Stp F1 H1 (Own (wipe σ is) (wipeE ρ1 is)) Fy Hy (fun p => Own σ2 ρ2 p ∨ p = D) := (st.trans (gr.stp _)).less fun p z => z.imp (ow2 p) id
    refine tT_bind0 er2 run fun b ρ3 F3 H3 st3 run3 => ?_
    have d3 := st3.1.hh D _ hDy no2
    have no3 : ¬ Own σ2 ρ3 D := fun z => (st3.1.ow D z).elim no2 fun q => by rw [hDy] at q; cases q
    have st3' := stC.trans (st3.1.add D)
    have noF : ∀ {ρ : Env'}, ¬ Own σ2 ρ D → ¬ Own (wipe σ is) (wipeE ρ is) D := fun {ρ} n z => n (own_wipe (vs := is) (by rw [w3]; exact z))
    cases b with
    | false =>
      simp only [Bool.false_eq_true, if_false] at run3 ⊢
      refine ⟨acc, accP, ρ3, F3, by omega, d3.1, d3.2 hFy, noF no3, st3'.less fun p z => z.imp (fun z => own_wipe (vs := is) (by rw [w3]; exact z)) id, by rw [← w3]; exact st3.2.wipe is, rep.mono (gr.ff.trans st3.1.ff), run3⟩
    | true =>
      simp only [if_true] at run3 ⊢
      refine tE_bind0 st3.2 run3 fun yv ρ4 y F4 H4 st4 r4 run4 => ?_
      have d4 := st4.1.hh D _ d3.1 no3
      have no4 : ¬ Own σ2 ρ4 D := fun z => (st4.1.ow D z).elim no3 fun q => by rw [d3.1] at q; cases q
      refine ⟨acc, d4.1, by omega, ?_⟩
      have hF4 : F4 D = none := d4.2 (d3.2 hFy)
      have er4 : ER c F4 H4 (wipe σ is) (wipeE ρ4 is) := by rw [← w3]; exact st4.2.wipe is
      refine ⟨acc ++ [y], accP ++ [yv], ρ4, F4, by rw [List.length_append]; simp; omega, upd_same, hF4, noF no4, ?_, er_upd er4 hF4 (noF no4), (rep.mono (gr.ff.trans (st3.1.ff.trans st4.1.ff))).append (.cons r4 .nil), ?_⟩
      · exact ((st3'.trans (st4.1.add D)).trans (Stp.put (S := Own σ2 ρ4) (o' := .lst (acc ++ [y])) d4.1)).less fun p z => z.imp (fun z => own_wipe (vs := is) (by rw [w3]; exact z)) id
      · refine Wp.mono _ (fun q z => ?_) (fun _ z => z) run4
        have z' : Z (accP ++ (yv :: q.1), q.2) := z
        rw [List.append_assoc]
        exact z'
theorem vl_lc {elt tg iter : Expr} {ifs : List Expr} {scope : Scope} {own : List (Str × Nat)} {is : List Nat} {pos : Pos} {gi : GI} {g : TG} {f : GG} {gt : GT} {ge : GE} (hc : X.calm = true) (hN : X.N.Nodup) (hi : PI X tg iter (tI c W gi)) (ok : BlkOk X.N X.env.scope scope own)
    (hg : ∀ (s : Shared) (H : Hp) (C : Addr) (cl : List (Str × Addr)) (fp : List Addr), PG (X.blk s H scope (compEnvC scope cl C X.env) fp) tg g) (hgf : TgOk c is g f)
    (ht : ∀ (s : Shared) (H : Hp) (C : Addr) (cl : List (Str × Addr)) (fp : List Addr), PTs (X.blk s H scope (compEnvC scope cl C X.env) fp) ifs (tT c W0 gt))
    (he : ∀ (s : Shared) (H : Hp) (C : Addr) (cl : List (Str × Addr)) (fp : List Addr), PE (X.blk s H scope (compEnvC scope cl C X.env) fp) elt (tE c W0 ge)) (his : own.map (·.2) = is := by rfl) (hs : ∀ x, foldedSetIterable iter X.env x = pure x := by intro _; rfl) :
    PE X (.ListComp elt [⟨tg, iter, ifs, 0⟩] scope pos) (tL c W (lLc is gi f gt ge)) := by
  subst his
  refine imp_PE (pe_lc hc hN hi ok hg ht he hs) fun σ H Q ⟨ρ, F, er, z⟩ => ?_
  generalize own.map (·.2) = is at *
  refine ⟨ρ, F, er, (gi ρ).mono (fun r h1 J F1 H1 st wk D hD => ?_) (fun _ q => q) z⟩
  dsimp only at h1
  by_cases hz : r.1.length ≤ sizeLine ∧ frozenAt r.2 is = true
  · rw [if_pos hz] at h1
    have h2 : (lcLoop is f gt ge r.1 r.2).run (fun q => OkL c σ ρ F H Q (q.1, backE q.2 r.2 is)) (fun _ => False) := h1
    have hFD : F1 D = none := st.2.sub.free hD
    have g0 := (upd_growH (o := .lst []) st.2.sub hD).stp (Own (wipe σ is) (wipeE r.2 is))
    have no0 : ¬ Own (wipe σ is) (wipeE r.2 is) D := not_own_new (st.2.wipe is) hD
    have start : LcAt c is f gt ge σ r.2 F1 H1 D r.1 (fun q => OkL c σ ρ F H Q (q.1, backE q.2 r.2 is)) 0 (upd H1 D (.lst [])) :=
      ⟨[], [], r.2, F1, Nat.le_refl _, upd_same, hFD, no0, ⟨g0.ff, g0.hh, g0.th, fun p q => q.elim .inl fun e => .inr (by rw [e]; exact hD)⟩, er_upd (st.2.wipe is) hFD no0, .nil, h2⟩
    refine ⟨fun i m H' => m = r.1.length - i ∧ i ≤ r.1.length ∧ LcAt c is f gt ge σ r.2 F1 H1 D r.1 (fun q => OkL c σ ρ F H Q (q.1, backE q.2 r.2 is)) i H', ⟨_, rfl, Nat.zero_le _, start⟩, fun i m H' hW => ?_⟩
    obtain ⟨rfl, hle, h⟩ := hW
    by_cases hi : i < r.1.length
    · obtain ⟨go, turn⟩ := lc_turn wk hz.1 hgf h hi
      exact .inr ⟨go, fun H' => LcAt c is f gt ge σ r.2 F1 H1 D r.1 (fun q => OkL c σ ρ F H Q (q.1, backE q.2 r.2 is)) (i + 1) H', fun H' n => ⟨r.1.length - (i + 1), by omega, rfl, hi, n⟩, turn⟩
    · have e : i = r.1.length := by omega
      subst e
      obtain ⟨acc, accP, ρ', F', hl, hDv, hF, no, st', er', rep, run⟩ := h.ex
      rw [List.drop_length] at run
      have q : OkL c σ ρ F H Q (accP ++ [], backE ρ' r.2 is) := run
      rw [List.append_nil] at q
      obtain ⟨er2, ow2⟩ := er_back' st.2 st'.ff er' hz.2
      rw [backE_wipe] at er2 ow2
      refine .inl ⟨wk.stop H' (st'.ff.trans er'.sub), q D acc F' H' ⟨st.1.trans ((st'.more fun p z => own_wipe z).less fun p z => .inl (ow2 p z)), er2⟩ ?_ hF hDv (fun z => no (ow2 D z)) rep⟩
      cases e : H D with
      | none => rfl
      | some o =>
        obtain ⟨o', e'⟩ := st.1.th D o e
        rw [hD] at e'
        cases e'
  · rw [if_neg hz] at h1
    exact h1.elim
end
end VL

set_option Elab.async false
set_option linter.all false
set_option maxRecDepth 100000
set_option maxHeartbeats 1000000
/-! VL, part 7: statements, defs. -/
namespace VL
open PySem PySem.Spec PyProof.Rows L2

inductive Out where
  | nx (ρ : Env') | bk (ρ : Env') | ct (ρ : Env') | rt (v : PV) (ρ : Env')
  /-- something tagged has been changed: only what is below the mark is known; on, or back with a bool -/
  | th (o : Option Bool) (ρ : Env')
abbrev GS := Env' → Wp XE' Out
section
variable (c : Cn) (pn : Nat → Bool)
/-- a statement's step: the pinned slots keep their values -/
def StpS (σ : St) (ρ : Env') (F H : Hp) (σ' : St) (ρ' : Env') (F' H' : Hp) : Prop := Stp F H (Own σ ρ) F' H' (Own σ' ρ') ∧ ER c F' H' σ' ρ' ∧ (∀ i, pn i = true → σ'[i]? = σ[i]?) ∧ σ'.length = σ.length
structure Thw (σ : St) (ρ : Env') (H : Hp) (σ' : St) (ρ' : Env') (H' : Hp) : Prop where
  hh : ∀ p o, H p = some o → ¬ Own σ ρ p → c.B p → H' p = some o
  th : ∀ p o, H p = some o → ∃ o', H' p = some o'
  ow : ∀ p, Own σ' ρ' p → Own σ ρ p ∨ H p = none
  er : ER c (fun _ => none) H' σ' ρ'
  pn : ∀ i, pn i = true → σ'[i]? = σ[i]?
  len : σ'.length = σ.length
def OkS (σ : St) (ρ : Env') (F H : Hp) (D : Ends) : Out → Prop
  | .nx ρ' => ∀ σ' F' H', StpS c pn σ ρ F H σ' ρ' F' H' → D.nx σ' H'
  | .bk ρ' => ∀ σ' F' H', StpS c pn σ ρ F H σ' ρ' F' H' → D.bk σ' H'
  | .ct ρ' => ∀ σ' F' H', StpS c pn σ ρ F H σ' ρ' F' H' → D.ct σ' H'
  | .rt v ρ' => ∀ w σ' F' H', StpS c pn σ ρ F H σ' ρ' F' H' → Rep c F' w v → D.rt w H'
  | .th o ρ' => ∀ σ' H', Thw c pn σ ρ H σ' ρ' H' → (o = none → D.nx σ' H') ∧ ∀ b, o = some b → D.rt (.bl b) H'
def ErS (W : WX) (σ : St) (ρ : Env') (F H : Hp) : XE' → Prop := fun e => ∀ d σ' F' H', StpS c pn σ ρ F H σ' e.2 F' H' → ExD c F' H' d e.1.fs → W (.ref (c.cA e.1.k)) d σ' H'
def tS (W : WX) (g : GS) : TS := fun D σ H => ∃ ρ F, ER c F H σ ρ ∧ (g ρ).run (OkS c pn σ ρ F H D) (ErS c pn W σ ρ F H)
end
section
variable {c : Cn} {pn : Nat → Bool} {σ σ1 σ2 : St} {ρ ρ1 ρ2 : Env'} {F H F1 H1 F2 H2 : Hp} {W : WX} {D : Ends}
theorem StpS.refl (e : ER c F H σ ρ) : StpS c pn σ ρ F H σ ρ F H := ⟨Stp.refl _ _ _, e, fun _ _ => rfl, rfl⟩
theorem StpS.trans (a : StpS c pn σ ρ F H σ1 ρ1 F1 H1) (b : StpS c pn σ1 ρ1 F1 H1 σ2 ρ2 F2 H2) : StpS c pn σ ρ F H σ2 ρ2 F2 H2 := ⟨a.1.trans b.1, b.2.1, fun i h => (b.2.2.1 i h).trans (a.2.2.1 i h), b.2.2.2.trans a.2.2.2⟩
theorem StpE.s (a : StpE c σ ρ F H ρ1 F1 H1) : StpS c pn σ ρ F H σ ρ1 F1 H1 := ⟨a.1, a.2, fun _ _ => rfl, rfl⟩
theorem Thw.step (t : Thw c pn σ1 ρ1 H1 σ2 ρ2 H2) (s : StpS c pn σ ρ F H σ1 ρ1 F1 H1) : Thw c pn σ ρ H σ2 ρ2 H2 where
  hh := fun p o h n b => t.hh p o (s.1.hh p o h n).1 (fun z => (s.1.ow p z).elim n fun q => by rw [h] at q; cases q) b
  th := fun p o h => by
    obtain ⟨o1, h1⟩ := s.1.th p o h
    exact t.th p o1 h1
  ow := fun p h => by
    rcases t.ow p h with h | h
    · exact s.1.ow p h
    · refine .inr ?_
      cases q : H p with
      | none => rfl
      | some o =>
        obtain ⟨o1, h1⟩ := s.1.th p o q
        rw [h1] at h
        cases h
  er := t.er
  pn := fun i h => (t.pn i h).trans (s.2.2.1 i h)
  len := t.len.trans s.2.2.2
theorem OkS.step {o : Out} (s : StpS c pn σ ρ F H σ1 ρ1 F1 H1) (h : OkS c pn σ ρ F H D o) : OkS c pn σ1 ρ1 F1 H1 D o := by
  cases o with
  | nx ρ' => exact fun σ' F' H' q => h σ' F' H' (s.trans q)
  | bk ρ' => exact fun σ' F' H' q => h σ' F' H' (s.trans q)
  | ct ρ' => exact fun σ' F' H' q => h σ' F' H' (s.trans q)
  | rt v ρ' => exact fun w σ' F' H' q r => h w σ' F' H' (s.trans q) r
  | th o ρ' => exact fun σ' H' q => h σ' H' (q.step s)
theorem ErS.step {e : XE'} (s : StpS c pn σ ρ F H σ1 ρ1 F1 H1) (h : ErS c pn W σ ρ F H e) : ErS c pn W σ1 ρ1 F1 H1 e := fun d σ' F' H' q x => h d σ' F' H' (s.trans q) x
theorem ErS.e {e : XE'} (h : ErS c pn W σ ρ F H e) : ErE c W σ ρ F H e := fun d F' H' q x => h d σ F' H' q.s x
theorem run_stepS {m : Wp XE' Out} (s : StpS c pn σ ρ F H σ1 ρ1 F1 H1) (h : m.run (OkS c pn σ ρ F H D) (ErS c pn W σ ρ F H)) : m.run (OkS c pn σ1 ρ1 F1 H1 D) (ErS c pn W σ1 ρ1 F1 H1) := m.mono (fun _ => OkS.step s) (fun _ => ErS.step s) h
/-- the first part of a statement is an expression's -/
theorem tE_bindS {g : GE} {k : PV × Env' → Wp XE' Out} {R : VK} (er : ER c F H σ ρ) (h : ((g ρ).bind k).run (OkS c pn σ ρ F H D) (ErS c pn W σ ρ F H))
    (hk : ∀ v ρ1 w F1 H1, StpE c σ ρ F H ρ1 F1 H1 → Rep c F1 w v → (k (v, ρ1)).run (OkS c pn σ ρ1 F1 H1 D) (ErS c pn W σ ρ1 F1 H1) → R w H1) : tE c W g σ H R :=
  ⟨ρ, F, er, (g ρ).mono (fun r h1 w F1 H1 st rep => hk r.1 r.2 w F1 H1 st rep (run_stepS st.s h1)) (fun _ z => z.e) h⟩
theorem tT_bindS {g : GT} {k : Bool × Env' → Wp XE' Out} {R : Bool → Hp → Prop} (er : ER c F H σ ρ) (h : ((g ρ).bind k).run (OkS c pn σ ρ F H D) (ErS c pn W σ ρ F H))
    (hk : ∀ v ρ1 F1 H1, StpE c σ ρ F H ρ1 F1 H1 → (k (v, ρ1)).run (OkS c pn σ ρ1 F1 H1 D) (ErS c pn W σ ρ1 F1 H1) → R v H1) : tT c W g σ H R :=
  ⟨ρ, F, er, (g ρ).mono (fun r h1 F1 H1 st => hk r.1 r.2 F1 H1 st (run_stepS st.s h1)) (fun _ z => z.e) h⟩
theorem tL_bindS {g : GL} {k : List PV × Env' → Wp XE' Out} {R : VK} (er : ER c F H σ ρ) (h : ((g ρ).bind k).run (OkS c pn σ ρ F H D) (ErS c pn W σ ρ F H))
    (hk : ∀ v ρ1 p vs F1 H1, StpE c σ ρ F H ρ1 F1 H1 → H p = none → F1 p = none → H1 p = some (.lst vs) → ¬ Own σ ρ1 p → Reps c F1 vs v → (k (v, ρ1)).run (OkS c pn σ ρ1 F1 H1 D) (ErS c pn W σ ρ1 F1 H1) → R (.ref p) H1) : tL c W g σ H R :=
  ⟨ρ, F, er, (g ρ).mono (fun r h1 p vs F1 H1 st a b d e f => hk r.1 r.2 p vs F1 H1 st a b d e f (run_stepS st.s h1)) (fun _ z => z.e) h⟩
theorem tI_bindS {g : GI} {k : List PV × Env' → Wp XE' Out} {R : It → Hp → Prop} (er : ER c F H σ ρ) (h : ((g ρ).bind k).run (OkS c pn σ ρ F H D) (ErS c pn W σ ρ F H))
    (hk : ∀ v ρ1 J F1 H1, StpE c σ ρ F H ρ1 F1 H1 → Wk c J F1 v → (k (v, ρ1)).run (OkS c pn σ ρ1 F1 H1 D) (ErS c pn W σ ρ1 F1 H1) → R J H1) : tI c W g σ H R :=
  ⟨ρ, F, er, (g ρ).mono (fun r h1 J F1 H1 st wk => hk r.1 r.2 J F1 H1 st wk (run_stepS st.s h1)) (fun _ z => z.e) h⟩
end

/-! ### blocks -/
def sSeq (g h : GS) : GS := fun ρ => (g ρ).bind fun o => match o with
  | .nx ρ1 => h ρ1
  | .th none _ => .stuck
  | o => .ret o
def sNil : GS := fun ρ => .ret (.nx ρ)
def sSet (i : Nat) (g : GE) : GS := fun ρ => (g ρ).bind fun a => .ret (.nx (a.2.set i (.fz a.1)))
def sOwn (i : Nat) (g : GL) : GS := fun ρ => (g ρ).bind fun a => .ret (.nx (a.2.set i (.ow a.1)))
def sDrop (g : GE) : GS := fun ρ => (g ρ).bind fun a => .ret (.nx a.2)
def sRet (g : GE) : GS := fun ρ => (g ρ).bind fun a => .ret (.rt a.1 a.2)
def sIf (t : GT) (g h : GS) : GS := fun ρ => (t ρ).bind fun b => if b.1 = true then g b.2 else h b.2
def sPub (i : Nat) (g : GS) : GS := fun ρ => match ρ[i]? with
  | some (.ow xs) => g (ρ.set i (.fz (.lst none xs)))
  | _ => .stuck
def sBrk : GS := fun ρ => .ret (.bk ρ)
def sCnt : GS := fun ρ => .ret (.ct ρ)
/-- a, b = .. -/
def sTgt (f : GG) (g : GE) : GS := fun ρ => (g ρ).bind fun a => match f a.1 a.2 with
  | some ρ' => .ret (.nx ρ')
  | none => .stuck
section
variable {c : Cn} {X : Cx} {W : WX} {pn : Nat → Bool} {st : Stmt} {rest : List Stmt} {g h : GS} {e a b : Expr} {ge : GE} {gt : GT} {gl : GL} {pos : Pos}
theorem vss_nil : PSs X [] (tS c pn W sNil) := imp_PSs pss_nil fun D σ H ⟨ρ, F, er, z⟩ => z σ F H (StpS.refl er)
theorem vss_cons (h1 : PS X st (tS c pn W g)) (h2 : PSs X rest (tS c pn W h)) : PSs X (st :: rest) (tS c pn W (sSeq g h)) := imp_PSs (pss_cons h1 h2) fun D σ H ⟨ρ, F, er, z⟩ =>
  ⟨ρ, F, er, (g ρ).mono (fun o q => by
    cases o with
    | nx ρ1 => exact fun σ' F' H' s => ⟨ρ1, F', s.2.1, run_stepS s q⟩
    | bk ρ1 => exact q
    | ct ρ1 => exact q
    | rt v ρ1 => exact q
    | th o ρ1 => cases o with
      | none => exact q.elim
      | some b => exact fun σ' H' t => ⟨(fun z => nomatch z), (show OkS c pn σ ρ F H D (.th (some b) ρ1) from q) σ' H' t |>.2⟩) (fun _ q => q) z⟩
theorem vss_one (h1 : PS X st (tS c pn W g)) : PSs X [st] (tS c pn W g) := pss_one h1
theorem vs_set {i : Nat} {x : Str} {pos' : Pos} (hN : X.N.Nodup) (hi : X.N[i]? = some x) (hx : Loc X.env.scope x) (hp : pn i = false) (he : PE X e (tE c W ge)) (hs : swapsWith e (some (.Name x pos')) pos.line X.env = pure false := by rfl)
    (hf : X.fn x = true ∨ X.env.scope.names.lookup x = some .local := by first | exact .inl rfl | exact .inr rfl | assumption) : PS X (.Assign [.Name x pos'] e pos) (tS c pn W (sSet i ge)) :=
  imp_PS (ps_set hN hi hx he hs hf) fun D σ H ⟨ρ, F, er, z⟩ => tE_bindS er z fun v ρ1 w F1 H1 st rep h1 => h1 _ F1 H1
    ⟨(Stp.refl F1 H1 _).less fun p q => own_set q, st.2.set rep, (fun j hj => List.getElem?_set_ne (fun q => by subst q; rw [hp] at hj; cases hj)), List.length_set⟩
theorem er_own {F H : Hp} {σ : St} {ρ : Env'} {i : Nat} {p : Addr} {vs : List V} {xs : List PV} (er : ER c F H σ ρ) (hF : F p = none) (hH : H p = some (.lst vs)) (no : ¬ Own σ ρ p) (r : Reps c F vs xs) :
    ER c F H (σ.set i (some (.ref p))) (ρ.set i (.ow xs)) ∧ ∀ q, Own (σ.set i (some (.ref p))) (ρ.set i (.ow xs)) q → Own σ ρ q ∨ q = p := by
  have len : ∀ {j : Nat} {s : SV} {y : SV}, (ρ.set i y)[i]? = some s → i < ρ.length := fun {j s y} h => by
    have := (List.getElem?_eq_some_iff.mp h).1
    rwa [List.length_set] at this
  have at_ : ∀ {j s q}, (σ.set i (some (.ref p)))[j]? = some (some (.ref q)) → (ρ.set i (.ow xs))[j]? = some s → s.own = true → (j = i ∧ q = p) ∨ (j ≠ i ∧ σ[j]? = some (some (.ref q)) ∧ ρ[j]? = some s) := fun {j s q} h1 h2 h3 => by
    by_cases hj : i = j
    · subst hj
      have hl := len (j := i) h2
      rw [List.getElem?_set_self (by rw [er.len]; exact hl)] at h1
      cases h1
      exact .inl ⟨rfl, rfl⟩
    · rw [List.getElem?_set_ne hj] at h1 h2
      exact .inr ⟨Ne.symm hj, h1, h2⟩
  refine ⟨⟨er.sub, by rw [List.length_set, List.length_set]; exact er.len, fun j o s h1 h2 => ?_, fun j k s t q h1 h2 h3 h4 h5 h6 => ?_⟩, fun q ⟨j, s, h1, h2, h3⟩ => ?_⟩
  · by_cases hj : i = j
    · subst hj
      have hl := len (j := i) h2
      rw [List.getElem?_set_self hl] at h2
      rw [List.getElem?_set_self (by rw [er.len]; exact hl)] at h1
      cases h1
      cases h2
      exact ⟨p, vs, rfl, hF, hH, r⟩
    · rw [List.getElem?_set_ne hj] at h1 h2
      exact er.slot j o s h1 h2
  · rcases at_ h1 h3 h5 with ⟨e1, e2⟩ | ⟨n1, a1, b1⟩
    · rcases at_ h2 h4 h6 with ⟨e3, e4⟩ | ⟨n2, a2, b2⟩
      · exact e1.trans e3.symm
      · subst e2
        exact absurd ⟨k, t, a2, b2, h6⟩ no
    · rcases at_ h2 h4 h6 with ⟨e3, e4⟩ | ⟨n2, a2, b2⟩
      · subst e4
        exact absurd ⟨j, s, a1, b1, h5⟩ no
      · exact er.dis j k s t q a1 a2 b1 b2 h5 h6
  · rcases at_ h1 h2 h3 with ⟨e1, e2⟩ | ⟨n1, a1, b1⟩
    · exact .inr e2
    · exact .inl ⟨j, s, a1, b1, h3⟩
/-- x = a new list that stays one's own -/
theorem vs_own {i : Nat} {x : Str} {pos' : Pos} (hN : X.N.Nodup) (hi : X.N[i]? = some x) (hx : Loc X.env.scope x) (hp : pn i = false) (he : PE X e (tL c W gl)) (hs : swapsWith e (some (.Name x pos')) pos.line X.env = pure false := by rfl)
    (hf : X.fn x = true ∨ X.env.scope.names.lookup x = some .local := by first | exact .inl rfl | exact .inr rfl | assumption) : PS X (.Assign [.Name x pos'] e pos) (tS c pn W (sOwn i gl)) :=
  imp_PS (ps_set hN hi hx he hs hf) fun D σ H ⟨ρ, F, er, z⟩ => ⟨ρ, F, er, (gl ρ).mono (fun r h1 p vs F1 H1 st hn hF hH no rep => by
    obtain ⟨er2, ow2⟩ := er_own (i := i) st.2 hF hH no rep
    refine h1 _ F1 H1 ⟨⟨st.1.ff, st.1.hh, st.1.th, fun q z => ?_⟩, er2, (fun j hj => List.getElem?_set_ne (fun q => by subst q; rw [hp] at hj; cases hj)), List.length_set⟩
    rcases ow2 q z with z | z
    · exact st.1.ow q z
    · subst z; exact .inr hn) (fun _ q => q.e) z⟩
theorem vs_expr (he : PE X e (tE c W ge)) (hs : swapsWith e none pos.line X.env = pure false := by rfl) : PS X (.Expr e pos) (tS c pn W (sDrop ge)) :=
  imp_PS (ps_expr he hs) fun D σ H ⟨ρ, F, er, z⟩ => tE_bindS er z fun v ρ1 w F1 H1 st rep h1 => h1 σ F1 H1 (StpS.refl st.2)
theorem vs_ret (he : PE X e (tE c W ge)) : PS X (.Return (some e) pos) (tS c pn W (sRet ge)) :=
  imp_PS (ps_ret he) fun D σ H ⟨ρ, F, er, z⟩ => tE_bindS er z fun v ρ1 w F1 H1 st rep h1 => h1 w σ F1 H1 (StpS.refl st.2) rep
theorem vs_retN : PS X (.Return none pos) (tS c pn W (sRet (eC .non))) := imp_PS ps_retN fun D σ H ⟨ρ, F, er, z⟩ => z .non σ F H (StpS.refl er) .non
theorem vs_if {p q : List Stmt} (ht : PT X a (tT c W gt)) (h1 : PSs X p (tS c pn W g)) (h2 : PSs X q (tS c pn W h)) : PS X (.If a p q pos) (tS c pn W (sIf gt g h)) :=
  imp_PS (ps_if ht h1 h2) fun D σ H ⟨ρ, F, er, z⟩ => tT_bindS er z fun b ρ1 F1 H1 st q => by
    cases b with
    | true => exact ⟨ρ1, F1, st.2, q⟩
    | false => exact ⟨ρ1, F1, st.2, q⟩
theorem vs_pass : PS X (.Pass pos) (tS c pn W sNil) := imp_PS ps_pass fun D σ H ⟨ρ, F, er, z⟩ => z σ F H (StpS.refl er)
theorem vs_break : PS X (.Break pos) (tS c pn W sBrk) := imp_PS ps_break fun D σ H ⟨ρ, F, er, z⟩ => z σ F H (StpS.refl er)
theorem vs_continue : PS X (.Continue pos) (tS c pn W sCnt) := imp_PS ps_continue fun D σ H ⟨ρ, F, er, z⟩ => z σ F H (StpS.refl er)
/-- a list of one's own is frozen from here on -/
theorem pub_er {F H : Hp} {σ : St} {ρ : Env'} {i : Nat} {xs : List PV} (er : ER c F H σ ρ) (hi : ρ[i]? = some (.ow xs)) : ∃ F', StpS c pn σ ρ F H σ (ρ.set i (.fz (.lst none xs))) F' H := by
  obtain ⟨p, vs, h1, h2, h3, r⟩ := er.ow hi
  have hil : i < ρ.length := (List.getElem?_eq_some_iff.mp hi).1
  have f := freeze_grow er.sub h2 h3
  have own' : ∀ q, Own σ (ρ.set i (.fz (.lst none xs))) q → Own σ ρ q ∧ q ≠ p := fun q ⟨j, s, a, b, d⟩ => by
    by_cases hj : i = j
    · subst hj
      rw [List.getElem?_set_self hil] at b
      cases b
      cases d
    · rw [List.getElem?_set_ne hj] at b
      refine ⟨⟨j, s, a, b, d⟩, fun e => ?_⟩
      subst e
      exact hj (er.dis i j (.ow xs) s q h1 a hi b rfl d)
  refine ⟨upd F p (.lst vs), ⟨f.1, fun q o e n => ⟨e, fun z => ?_⟩, fun q o e => ⟨o, e⟩, fun q z => .inl (own' q z).1⟩, ⟨f.2, by rw [List.length_set]; exact er.len, fun j o s a b => ?_, fun j k s t q a b a' b' d d' => ?_⟩, fun _ _ => rfl, rfl⟩
  · by_cases hq : q = p
    · subst hq
      exact absurd ⟨i, _, h1, hi, rfl⟩ n
    · rw [upd_ne hq]; exact z
  · by_cases hj : i = j
    · subst hj
      rw [List.getElem?_set_self hil] at b
      rw [h1] at a
      cases a
      cases b
      exact ⟨.ref p, rfl, .lst upd_same (r.mono f.1) fun _ z => nomatch z⟩
    · rw [List.getElem?_set_ne hj] at b
      refine freeze_slot h2 (fun q e1 e2 e3 => ?_) (er.slot j o s a b)
      subst e3
      subst e1
      exact hj (er.dis i j (.ow xs) s q h1 a hi b rfl e2)
  · have ne : ∀ {j s}, (ρ.set i (.fz (.lst none xs)))[j]? = some s → s.own = true → i ≠ j := fun {j s} b d hj => by
      subst hj
      rw [List.getElem?_set_self hil] at b
      cases b
      cases d
    have n1 := ne a' d
    have n2 := ne b' d'
    rw [List.getElem?_set_ne n1] at a'
    rw [List.getElem?_set_ne n2] at b'
    exact er.dis j k s t q a b a' b' d d'
theorem vss_pub {i : Nat} (h1 : PSs X rest (tS c pn W g)) : PSs X rest (tS c pn W (sPub i g)) := imp_PSs h1 fun D σ H ⟨ρ, F, er, z⟩ => by
  unfold sPub at z
  split at z
  · rename_i xs hi
    obtain ⟨F', s⟩ := pub_er (pn := pn) er hi
    exact ⟨_, F', s.2.1, run_stepS s z⟩
  · exact z.elim
theorem len_wipe {σ σ' : St} {is : List Nat} (h : wipe σ' is = wipe σ is) : σ'.length = σ.length := by
  have e := congrArg List.length h
  rwa [wipe_length, wipe_length] at e
/-- a target of any form -/
theorem vs_tgt {tg : Expr} {is : List Nat} {tgr : TG} {f : GG} (he : PE X e (tE c W ge)) (hg : PG X tg tgr) (hgf : TgOk c is tgr f) (hp : ∀ i, i ∈ is → pn i = false) (hs : swapsWithSole [tg] e pos.line X.env = pure false := by rfl) (hw : swappedStores [tg] e X.env = pure none := by rfl)
    (h1 : (assignEach [tg] X.env).map (·.2) = [assign tg X.env] := by rfl) : PS X (.Assign [tg] e pos) (tS c pn W (sTgt f ge)) :=
  imp_PS (ps_asg he hg hs hw h1) fun D σ H ⟨ρ, F, er, z⟩ => tE_bindS er z fun v ρ1 w F1 H1 st rep h1 => by
    dsimp only at h1
    cases hf : f v ρ1 with
    | none => rw [hf] at h1; exact h1.elim
    | some ρ' =>
      rw [hf] at h1
      exact hgf F1 H1 σ ρ1 ρ' w v _ st.2 rep hf fun σ' er' ow wp nj => h1 σ' F1 H1 ⟨(Stp.refl F1 H1 _).less ow, er', (fun j hj => nj j (fun z => by rw [hp j z] at hj; cases hj)), len_wipe wp⟩
/-- a, b = x, y -/
def sPar (i j : Nat) (g h : GE) : GS := fun ρ => (g ρ).bind fun a => (h a.2).bind fun b => .ret (.nx ((b.2.set i (.fz a.1)).set j (.fz b.1)))
theorem vs_par {i j : Nat} {x y : Str} {ga gb : GE} {px py pt : Pos} {kt k2 pt2} (hc : X.calm = true) (hN : X.N.Nodup) (hi : X.N[i]? = some x) (hj : X.N[j]? = some y) (hij : i ≠ j) (hpi : pn i = false) (hpj : pn j = false)
    (hx : X.env.scope.names.lookup x = some .local) (hy : X.env.scope.names.lookup y = some .local) (ha : PE X a (tE c W ga)) (hb : PE X b (tE c W gb))
    (hw : swappedStores [.Tuple [.Name x px, .Name y py] kt pt] (.Tuple [a, b] k2 pt2) X.env = pure (some [x, y]))
    (he : starEach [a, b] X.env = (false, eval a X.env) :: starEach [b] X.env := by rfl) (he2 : starEach [b] X.env = (false, eval b X.env) :: starEach [] X.env := by rfl)
    (hs : swapsWithSole [.Tuple [.Name x px, .Name y py] kt pt] (.Tuple [a, b] k2 pt2) pos.line X.env = pure false := by rfl) :
    PS X (.Assign [.Tuple [.Name x px, .Name y py] kt pt] (.Tuple [a, b] k2 pt2) pos) (tS c pn W (sPar i j ga gb)) :=
  imp_PS (ps_par hc hN hi hj hij hx hy (pa_cons ha (pa_cons hb pa_nil he2) he) hw hs) fun D σ H ⟨ρ, F, er, z⟩ =>
    tE_bindS er z fun v ρ1 w F1 H1 st rep h1 => tE_bindS st.2 h1 fun u ρ2 y F2 H2 st2 rep2 h2 => ⟨w, y, rfl, h2 _ F2 H2
      ⟨(Stp.refl F2 H2 _).less fun p q => own_set (own_set q), (st2.2.set (rep.mono st2.1.ff)).set rep2, (fun k hk => by
        have n1 : j ≠ k := fun q => by rw [← q, hpj] at hk; cases hk
        have n2 : i ≠ k := fun q => by rw [← q, hpi] at hk; cases hk
        rw [List.getElem?_set_ne n1, List.getElem?_set_ne n2]), by rw [List.length_set, List.length_set]⟩⟩
end
end VL

set_option Elab.async false
set_option linter.all false
set_option maxRecDepth 100000
set_option maxHeartbeats 1000000
/-! VL, part 8: loops, defs, exceptions. -/
namespace VL
open PySem PySem.Spec PyProof.Rows L2

/-! ### for -/
def forLoop (f : GG) (g : GS) : List PV → Env' → Wp XE' Out
  | [], ρ => .ret (.nx ρ)
  | x :: xs, ρ => match f x ρ with
    | none => .stuck
    | some ρ1 => (g ρ1).bind fun o => match o with
      | .nx ρ2 => forLoop f g xs ρ2
      | .ct ρ2 => forLoop f g xs ρ2
      | .bk ρ2 => .ret (.nx ρ2)
      | .rt v ρ2 => .ret (.rt v ρ2)
      | .th (some b) ρ2 => .ret (.th (some b) ρ2)
      | .th none _ => .stuck
def sFor (f : GG) (gi : GI) (g : GS) : GS := fun ρ => (gi ρ).bind fun a => forLoop f g a.1 a.2
section
variable {c : Cn} {X : Cx} {W : WX} {pn : Nat → Bool} {g : GS} {pos : Pos}
theorem vs_for {tg iter : Expr} {body : List Stmt} {is : List Nat} {tgr : TG} {f : GG} {gi : GI} (hp : PassesOwn (model X.prog X.w) X.A X.env X.xe) (hc : X.calm = true) (hi : PI X tg iter (tI c W gi)) (hg : PG X tg tgr) (hgf : TgOk c is tgr f) (hpn : ∀ i, i ∈ is → pn i = false)
    (hb : PSs X body (tS c pn W g)) (hs : ∀ x, foldedSetIterable iter X.env x = pure x := by intro _; rfl) : PS X (.For tg iter body [] pos) (tS c pn W (sFor f gi g)) :=
  imp_PS (ps_for hp hc hi hg hb hs) fun D σ H ⟨ρ, F, er, z⟩ => tI_bindS er z fun xs ρ1 J F1 H1 st wk h1 => by
    refine ⟨fun i m σ' H' => m = xs.length - i ∧ i ≤ xs.length ∧ ∃ ρ' F', StpS c pn σ ρ1 F1 H1 σ' ρ' F' H' ∧ (forLoop f g (xs.drop i) ρ').run (OkS c pn σ' ρ' F' H' D) (ErS c pn W σ' ρ' F' H'),
      ⟨_, rfl, Nat.zero_le _, ρ1, F1, StpS.refl st.2, h1⟩, fun i m σ' H' hW => ?_⟩
    obtain ⟨rfl, hle, ρ', F', s, run⟩ := hW
    have same : Same F1 H' := s.1.ff.trans s.2.1.sub
    by_cases hi : i < xs.length
    · rw [List.drop_eq_getElem_cons hi] at run
      unfold forLoop at run
      obtain ⟨go, yl⟩ := wk.go i xs[i] H' (List.getElem?_eq_getElem hi) same
      refine .inr ⟨go, fun σ3 H3 => ∃ ρ3 F3, StpS c pn σ ρ1 F1 H1 σ3 ρ3 F3 H3 ∧ (forLoop f g (xs.drop (i + 1)) ρ3).run (OkS c pn σ3 ρ3 F3 H3 D) (ErS c pn W σ3 ρ3 F3 H3), fun σ3 H3 ⟨ρ3, F3, s3, r3⟩ => ⟨xs.length - (i + 1), by omega, rfl, hi, ρ3, F3, s3, r3⟩, fun x Hy y => ?_⟩
      obtain ⟨Fy, gr, rx⟩ := yl x Hy F' s.1.ff s.2.1.sub y
      have ery := s.2.1.grow gr
      cases hf : f xs[i] ρ' with
      | none => rw [hf] at run; exact run.elim
      | some ρ2 =>
        rw [hf] at run
        dsimp only at run
        refine hgf Fy Hy σ' ρ' ρ2 x xs[i] _ ery rx hf fun σ2 er2 ow2 wp nj => ?_
        have s2 : StpS c pn σ' ρ' F' H' σ2 ρ2 Fy Hy := ⟨(gr.stp _).less fun p q => ow2 p q, er2, (fun j hj => nj j (fun q => by rw [hpn j q] at hj; cases hj)), len_wipe wp⟩
        refine ⟨ρ2, Fy, er2, (g ρ2).mono (fun o q => ?_) (fun _ q => ErS.step s2 q) run⟩
        cases o with
        | nx ρ3 => exact fun σ3 F3 H3 s3 => ⟨ρ3, F3, s.trans (s2.trans s3), run_stepS (s2.trans s3) q⟩
        | ct ρ3 => exact fun σ3 F3 H3 s3 => ⟨ρ3, F3, s.trans (s2.trans s3), run_stepS (s2.trans s3) q⟩
        | bk ρ3 => exact fun σ3 F3 H3 s3 => q σ3 F3 H3 (s2.trans s3)
        | rt v ρ3 => exact fun w σ3 F3 H3 s3 rp => q w σ3 F3 H3 (s2.trans s3) rp
        | th o ρ3 => cases o with
          | none => exact q.elim
          | some b => exact fun σ3 H3 t => ⟨(fun z => nomatch z), (q σ3 H3 (t.step s2)).2⟩
    · have e : i = xs.length := by omega
      subst e
      rw [List.drop_length] at run
      exact .inl ⟨wk.stop H' same, run σ' _ H' (StpS.refl s.2.1)⟩

/-! ### while -/
def whLoop (t : GT) (g : GS) : Nat → Env' → Wp XE' Out
  | 0, _ => .stuck
  | n + 1, ρ => (t ρ).bind fun b => if b.1 = true then (g b.2).bind fun o => match o with
      | .nx ρ2 => whLoop t g n ρ2
      | .ct ρ2 => whLoop t g n ρ2
      | .bk ρ2 => .ret (.nx ρ2)
      | .rt v ρ2 => .ret (.rt v ρ2)
      | .th (some b) ρ2 => .ret (.th (some b) ρ2)
      | .th none _ => .stuck
    else .ret (.nx b.2)
/-- some number of turns is enough -/
def sWhile (t : GT) (g : GS) : GS := fun ρ => ⟨fun K E => ∃ n, (whLoop t g n ρ).run K E, fun h e ⟨n, x⟩ => ⟨n, (whLoop t g n ρ).mono h e x⟩⟩
theorem vs_while {a : Expr} {body : List Stmt} {gt : GT} (hp : PassesOwn (model X.prog X.w) X.A X.env X.xe) (ht : PT X a (tT c W gt)) (hb : PSs X body (tS c pn W g)) : PS X (.While a body [] pos) (tS c pn W (sWhile gt g)) :=
  imp_PS (ps_while hp ht hb) fun D σ H ⟨ρ, F, er, n0, z⟩ => by
    refine ⟨fun n σ' H' => ∃ ρ' F', StpS c pn σ ρ F H σ' ρ' F' H' ∧ (whLoop gt g n ρ').run (OkS c pn σ' ρ' F' H' D) (ErS c pn W σ' ρ' F' H'), ⟨n0, ρ, F, StpS.refl er, z⟩, fun n σ1 H1 hW => ?_⟩
    obtain ⟨ρ1, F1, s1, run⟩ := hW
    cases n with
    | zero => exact run.elim
    | succ n =>
      unfold whLoop at run
      refine tT_bindS s1.2.1 run fun b ρ2 F2 H2 st2 run2 => ?_
      have s2 := s1.trans st2.s
      cases b with
      | true =>
        refine ⟨fun σ3 H3 => ∃ ρ3 F3, StpS c pn σ ρ F H σ3 ρ3 F3 H3 ∧ (whLoop gt g n ρ3).run (OkS c pn σ3 ρ3 F3 H3 D) (ErS c pn W σ3 ρ3 F3 H3), fun σ3 H3 q => ⟨n, Nat.lt_succ_self n, q⟩, ρ2, F2, st2.2, (g ρ2).mono (fun o q => ?_) (fun _ q => q) run2⟩
        cases o with
        | nx ρ3 => exact fun σ3 F3 H3 s3 => ⟨ρ3, F3, s2.trans s3, run_stepS s3 q⟩
        | ct ρ3 => exact fun σ3 F3 H3 s3 => ⟨ρ3, F3, s2.trans s3, run_stepS s3 q⟩
        | bk ρ3 => exact fun σ3 F3 H3 s3 => q σ3 F3 H3 s3
        | rt v ρ3 => exact fun w σ3 F3 H3 s3 rp => q w σ3 F3 H3 s3 rp
        | th o ρ3 => cases o with
          | none => exact q.elim
          | some b => exact fun σ3 H3 t => ⟨(fun z => nomatch z), (q σ3 H3 t).2⟩
      | false => exact run2 σ1 F2 H2 (StpS.refl st2.2)
end

/-! ### defs -/
def outs : List SV → Env' → List SV
  | [], _ => []
  | s :: ss, ρ => (if s.own = true then ρ.headD .un else .un) :: outs ss ρ.tail
def pinned (pn : Nat → Bool) (ss : List SV) : Bool := (List.range ss.length).all fun i => match ss[i]? with
  | some s => !s.own || pn i
  | none => true
/-- a def with n slots -/
def fnV (n : Nat) (pn : Nat → Bool) (g : GS) : GF := fun ss => if pinned pn ss = true then ((g (ss ++ List.replicate (n - ss.length) .un)).mapE fun e => (e.1, outs ss e.2)).bind fun o => match o with
  | .nx ρ => .ret (.non, outs ss ρ)
  | .rt v ρ => .ret (v, outs ss ρ)
  | _ => .stuck
  else .stuck
section
variable {c : Cn} {pn : Nat → Bool} {F H F' H' : Hp}
theorem outs_length : ∀ (ss : List SV) (ρ : Env'), (outs ss ρ).length = ss.length
  | [], _ => rfl
  | s :: ss, ρ => congrArg Nat.succ (outs_length ss ρ.tail)
theorem outs_get : ∀ {ss : List SV} {ρ : Env'} {i : Nat} {t : SV}, (outs ss ρ)[i]? = some t → (∃ s, ss[i]? = some s ∧ s.own = true ∧ ρ[i]? = some t) ∨ t = .un
  | [], _, _, _, h => by simp [outs] at h
  | s :: ss, ρ, 0, t, h => by
    have h' : (if s.own = true then ρ.headD .un else .un) = t := by simpa [outs] using h
    by_cases ho : s.own = true
    · rw [if_pos ho] at h'
      cases ρ with
      | nil => exact .inr h'.symm
      | cons a as => exact .inl ⟨s, rfl, ho, by rw [← h']; rfl⟩
    · rw [if_neg ho] at h'
      exact .inr h'.symm
  | s :: ss, ρ, i + 1, t, h => by
    have h' : (outs ss ρ.tail)[i]? = some t := by simpa [outs] using h
    rcases outs_get h' with ⟨u, a, b, d⟩ | e
    · refine .inl ⟨u, by simpa using a, b, ?_⟩
      cases ρ with
      | nil => simp at d
      | cons x xs => simpa using d
    · exact .inr e
theorem er_enter {N : List Str} {vs : List V} {ss : List SV} (er : ER c F H (vs.map some) ss) (hl : vs.length ≤ N.length) : ER c F H (L2.start N vs) (ss ++ List.replicate (N.length - ss.length) .un) ∧ ∀ p, Own (L2.start N vs) (ss ++ List.replicate (N.length - ss.length) .un) p ↔ Own (vs.map some) ss p := by
  have len : vs.length = ss.length := by have := er.len; rwa [List.length_map] at this
  have lo : ∀ {i : Nat}, i < ss.length → (L2.start N vs)[i]? = (vs.map some)[i]? ∧ (ss ++ List.replicate (N.length - ss.length) SV.un)[i]? = ss[i]? := fun {i} h => by
    refine ⟨?_, List.getElem?_append_left h⟩
    unfold L2.start
    exact List.getElem?_append_left (by rw [List.length_map, len]; exact h)
  have hi : ∀ {i : Nat} {s : SV}, ¬ i < ss.length → (ss ++ List.replicate (N.length - ss.length) SV.un)[i]? = some s → s = .un := fun {i s} h e => by
    rw [List.getElem?_append_right (by omega), List.getElem?_replicate] at e
    split at e
    · cases e; rfl
    · cases e
  have own : ∀ {i : Nat} {s : SV}, (ss ++ List.replicate (N.length - ss.length) SV.un)[i]? = some s → s.own = true → i < ss.length := fun {i s} e h => by
    by_cases q : i < ss.length
    · exact q
    · rw [hi q e] at h
      cases h
  refine ⟨⟨er.sub, ?_, fun i o s h1 h2 => ?_, fun i j s t p h1 h2 h3 h4 h5 h6 => ?_⟩, fun p => ⟨fun ⟨i, s, h1, h2, h3⟩ => ?_, fun ⟨i, s, h1, h2, h3⟩ => ?_⟩⟩
  · unfold L2.start
    rw [List.length_append, List.length_append, List.length_map, List.length_replicate, List.length_replicate, len]
  · by_cases q : i < ss.length
    · rw [(lo q).1] at h1
      rw [(lo q).2] at h2
      exact er.slot i o s h1 h2
    · rw [hi q h2]
      trivial
  · have q1 := own h3 h5
    have q2 := own h4 h6
    rw [(lo q1).1] at h1
    rw [(lo q2).1] at h2
    rw [(lo q1).2] at h3
    rw [(lo q2).2] at h4
    exact er.dis i j s t p h1 h2 h3 h4 h5 h6
  · have q := own h2 h3
    rw [(lo q).1] at h1
    rw [(lo q).2] at h2
    exact ⟨i, s, h1, h2, h3⟩
  · have q : i < ss.length := (List.getElem?_eq_some_iff.mp h2).1
    exact ⟨i, s, by rw [(lo q).1]; exact h1, by rw [(lo q).2]; exact h2, h3⟩
theorem er_leave {N : List Str} {vs : List V} {ss : List SV} {σ' : St} {ρ' : Env'} (er : ER c F H (vs.map some) ss) (hl : vs.length ≤ N.length) (hp : pinned pn ss = true)
    (s : StpS c pn (L2.start N vs) (ss ++ List.replicate (N.length - ss.length) .un) F H σ' ρ' F' H') : StpE c (vs.map some) ss F H (outs ss ρ') F' H' := by
  obtain ⟨er0, ow0⟩ := er_enter er hl
  have len : vs.length = ss.length := by have := er.len; rwa [List.length_map] at this
  have pin : ∀ {i : Nat} {s : SV}, ss[i]? = some s → s.own = true → pn i = true := fun {i s} h1 h2 => by
    unfold pinned at hp
    have q := List.all_eq_true.mp hp i (List.mem_range.mpr (List.getElem?_eq_some_iff.mp h1).1)
    rw [h1] at q
    simpa [h2] using q
  have at_ : ∀ {i : Nat} {u : SV}, ss[i]? = some u → u.own = true → σ'[i]? = (vs.map some)[i]? := fun {i u} h1 h2 => by
    rw [s.2.2.1 i (pin h1 h2)]
    unfold L2.start
    exact List.getElem?_append_left (by rw [List.length_map, len]; exact (List.getElem?_eq_some_iff.mp h1).1)
  have own' : ∀ p, Own (vs.map some) (outs ss ρ') p → Own σ' ρ' p := fun p ⟨i, t, h1, h2, h3⟩ => by
    rcases outs_get h2 with ⟨u, a, b, d⟩ | e
    · exact ⟨i, t, by rw [at_ a b]; exact h1, d, h3⟩
    · subst e; cases h3
  refine ⟨⟨s.1.ff, fun p o h n => s.1.hh p o h fun q => n ((ow0 p).mp q), s.1.th, fun p h => ?_⟩, s.2.1.sub, ?_, fun i o t h1 h2 => ?_, fun i j t u p h1 h2 h3 h4 h5 h6 => ?_⟩
  · rcases s.1.ow p (own' p h) with q | q
    · exact .inl ((ow0 p).mp q)
    · exact .inr q
  · rw [List.length_map]
    rw [outs_length, len]
  · rcases outs_get h2 with ⟨v, a, b, d⟩ | e
    · exact s.2.1.slot i o t (by rw [at_ a b]; exact h1) d
    · subst e; trivial
  · rcases outs_get h3 with ⟨v, a, b, d⟩ | e
    · rcases outs_get h4 with ⟨v', a', b', d'⟩ | e
      · exact s.2.1.dis i j t u p (by rw [at_ a b]; exact h1) (by rw [at_ a' b']; exact h2) d d' h5 h6
      · subst e; cases h6
    · subst e; cases h5
/-- a def of the text keeps what its body makes -/
theorem fn_ok {P : Program} {w : World} {K : PySem.W.Frag} {mg : Str → Option Value} {base : Heap} {x qual : Str} {st : Stmt} {f : Addr} {fd : FuncData} {N ps : List Str} {k n : Nat} {g : GS} (hk : c.K = K) (Fn : Fun K x qual st f fd) (S : FnScope N ps (defScope st)) (hn : ps.length = n) (hl : ps.length ≤ N.length)
    (hbody : ∀ (cdv : Value) (A : Around) (outer : List Env) (s : Shared) (H : Hp) (E : XK), Room k (A.deeper (envOfC qual (defScope st) s.heap.objs.size f cdv)) →
      PSs (cxOf (L2.CX P w) P w K mg base N qual (defScope st) f cdv A outer s H E) (defBody st) (tS c pn (fun cls d _ H' => E cls d H') g)) : FnOk P w K mg base (L2.CX P w) (k + 1) f fd ps (SpV c n (fnV N.length pn g)) := by
  refine Fn.okX S (fun vs H Q E h => h.1.trans hn.symm) (fun cdv A outer s H vs Q E hr h => ⟨_, hbody cdv A outer s H E hr, ?_⟩)
  obtain ⟨hv, F, ss, er, z⟩ := h
  have hvl : vs.length ≤ N.length := by omega
  unfold fnV at z
  by_cases hp : pinned pn ss = true
  · rw [if_pos hp] at z
    obtain ⟨er0, _⟩ := er_enter er hvl
    refine ⟨_, F, er0, (g _).mono (fun o q => ?_) (fun e q d σ' F' H' s' ex => q d F' H' (er_leave er hvl hp s') ex) z⟩
    cases o with
    | nx ρ' => exact fun σ' F' H' s' => q .non F' H' (er_leave er hvl hp s') .non
    | rt v ρ' => exact fun w σ' F' H' s' rp => q w F' H' (er_leave er hvl hp s') rp
    | bk ρ' => exact q.elim
    | ct ρ' => exact q.elim
    | th o ρ' => exact q.elim
  · rw [if_neg hp] at z
    exact z.elim
end
end VL

set_option Elab.async false
set_option linter.all false
set_option maxRecDepth 100000
set_option maxHeartbeats 2000000
/-! VL, part 9: raise, try. -/
namespace VL
open PySem PySem.Spec PyProof.Rows L2

/-! ### try with clauses of both kinds (with a name, without) -/
/-- a clause: the class, the slot of its name if it has one, its suite's reading -/
abbrev Cl := Value × Option Nat × (Addr → Value → Option Addr → TS)
def suiteEnds (D : Ends) : Option Nat → Ends
  | none => D
  | some i => { nx := fun σ' H' => D.nx (σ'.set i none) H', rt := D.rt, bk := fun σ' H' => D.bk (σ'.set i none) H', ct := fun σ' H' => D.ct (σ'.set i none) H' }
def suiteSt (σ : St) (a : Addr) : Option Nat → St
  | none => σ
  | some i => σ.set i (some (.ref a))
def wMix (K : PySem.W.Frag) (Wo : WX) (D : Ends) : List Cl → WX
  | [] => Wo
  | k :: r => fun cls d σ H => ∃ b, PySem.W.exmOne K cls k.1 = some b ∧ (b = true → ∀ a, H a = none → k.2.2 a cls d (suiteEnds D k.2.1) (suiteSt σ a k.2.1) H) ∧ (b = false → wMix K Wo D r cls d σ H)
def SuiteOk (X : Cx) (suite : List Stmt) (ts : Addr → Value → Option Addr → TS) : Prop :=
  ∀ (a : Addr) (oe : Obj) (cls : Value) (d : Option Addr) (pl : List (Addr × Obj)), Zc cls d oe → (∃ vs, oe.data = .fields vs) → PSs (X.suite a ((a, oe) :: pl)) suite (ts a cls d)
inductive ClsOk (X : Cx) : List ExceptHandler → List Cl → Prop
  | nil : ClsOk X [] []
  | bare {x : Str} {cv : Value} {ts : Addr → Value → Option Addr → TS} {b₀ : Stmt} {suite : List Stmt} {np hp : Pos} {hds : List ExceptHandler} {l : List Cl} (hc : Names X x cv) (hsu : SuiteOk X (b₀ :: suite) ts) (r : ClsOk X hds l) :
      ClsOk X (.ExceptHandler (some (.Name x np)) none (b₀ :: suite) hp :: hds) ((cv, none, ts) :: l)
  | named {x n : Str} {i : Nat} {cv : Value} {ts : Addr → Value → Option Addr → TS} {b₀ : Stmt} {suite : List Stmt} {np hp : Pos} {hds : List ExceptHandler} {l : List Cl} (hc : Names X x cv) (hi : X.N[i]? = some n) (hln : X.env.kindOf n = some .local) (hsu : SuiteOk X (b₀ :: suite) ts) (r : ClsOk X hds l) :
      ClsOk X (.ExceptHandler (some (.Name x np)) (some n) (b₀ :: suite) hp :: hds) ((cv, some i, ts) :: l)
section
variable {X : Cx} {body : List Stmt} {h₀ : ExceptHandler} {hds : List ExceptHandler} {l : List Cl} {pos : Pos} {tb : WX → TS} {Wo : WX}
theorem ps_try_mix (hs : X.stack = X.env :: X.outer) (hf : X.env.frame = some X.env.locals) (hN : X.N.Nodup) (tk : Takes X Wo)
    (hb : ∀ (W : WX) (pl : List (Addr × Obj)) (xe : Value → Shared → Prop), Takes (X.tr pl xe) W → PassesOwn (model X.prog X.w) X.A X.env xe → PSs (X.tr pl xe) body (tb W))
    (hh : ClsOk X (h₀ :: hds) l) : PS X (.Try body (h₀ :: hds) [] [] pos) (fun D σ H => tb (wMix X.K Wo D l) D σ H) := by
  refine ⟨fun pins s σ H D I h => ?_⟩
  have ok := I.ok
  have fr : X.A.frames = some (X.env :: X.outer) := ok.frames.trans (congrArg some hs)
  refine wpAny_Try_except ?_
  refine wpAny_mono ((hb (wMix X.K Wo D l) (X.pn ++ pins) (fun x s1 => wpAny (model X.prog X.w) X.A (noteFrame x X.env) (fun _ s2 => wpAny (model X.prog X.w) X.A (setFlight x none)
    (fun _ s3 => wpAny (model X.prog X.w) X.A (handleBy x X.env (h₀ :: hds)) (SP X pins D) X.xe s3) X.xe s2) X.xe s1) (fun u s' xx => ?_) PassesOwn.looking).run [] s σ H D (I.toTry _) h) (fun fl s1 q => ?_) fun _ _ z => z
  · -- an exception has left the body
    obtain ⟨a, B, sI, pl, τ, G, cls, d, rfl, J', nb, up, sky, na, os, ag, w⟩ := xx
    have J : Inv X pins τ G sI := J'.ofTry ok
    rw [show (X.tr (X.pn ++ pins) _).stack = X.env :: X.outer from hs] at sky
    show wpAny (model X.prog X.w) X.A (noteFrame (.ref a) X.env) _ _ _
    refine Sky.land Zc.steady fr hf sky fun h3 fl3 up3 => ?_
    have J3 : Inv X pins τ G { s' with heap := h3 } := J.landed nb fl3.1 (up.trans up3) os ag
    obtain ⟨oe3, vs3, he3, hz3, hd3⟩ := fl3.there
    have nfr : a ∉ frs (X.env :: X.outer) := fun hm => by
      obtain ⟨_, o', e', hnf⟩ := fl3.2.2.1.mem hm
      rw [he3] at e'
      cases e'
      exact hnf _ hd3
    have nL : a ≠ X.env.locals := fun z => nfr (by rw [z]; exact List.mem_filterMap.mpr ⟨X.env, List.mem_cons_self, hf⟩)
    have nF : a ∉ X.fs := fun hm => by
      obtain ⟨v, hv, q⟩ := List.mem_filterMap.mp hm
      exact nfr (List.mem_filterMap.mpr ⟨v, List.mem_cons_of_mem _ hv, q⟩)
    have S3 := J3.suite he3 hd3 na nL nF
    have tests : ∀ {x : Str} {cv : Value} {np : Pos}, Names X x cv → ∀ {Q : Value → Shared → Prop} {E : Value → Shared → Prop}, Q cv { s' with heap := h3 } → wpAny (model X.prog X.w) (X.A.mark (some (.ref a))) (eval (.Name x np) X.env) Q E { s' with heap := h3 } := fun {x cv np} hc {Q E} q => by
      obtain ⟨hg, hdbg, hm | ⟨hm, hv, hnn⟩⟩ := hc
      · exact ld_glob (X := X.suite a ((a, oe3) :: (X.pn ++ pins))) S3 hg hm q hdbg
      · exact ld_blt (X := X.suite a ((a, oe3) :: (X.pn ++ pins))) S3 hg hm hv q hnn hdbg
    have LT : PySem.W.Looks (model X.prog X.w) h3 (typeOf (.ref a)) cls := fun A Q E s k q => wpAny_typeOf_ref (k _ _ he3) (by rw [hz3.1]; exact q)
    have go : ∀ {hds' : List ExceptHandler} {l' : List Cl}, ClsOk X hds' l' → wMix X.K Wo D l' cls d τ G → wpAny (model X.prog X.w) X.A (handleBy (.ref a) X.env hds') (SP X pins D) X.xe { s' with heap := h3 } := by
      intro hds' l' hk
      induction hk with
      | nil =>
        intro w
        refine wpAny_handleBy_nil ?_
        obtain ⟨k1, k2, k3, oe, vs, T, oT, ts', he, hz, hd, h1, hr⟩ := id fl3
        unfold PySem.passOn
        refine wpAny_bind (wpAny_field he hd h1 ?_)
        rw [if_neg (show ¬ ((Value.ref T == Value.none) = true) from by simp)]
        have fin : wpAny (model X.prog X.w) X.A (setFlight (.ref a) X.env.frame) (fun _ s4 => wpAny (model X.prog X.w) X.A (throw (.ref a) : Sem Flow) (SP X pins D) X.xe s4) X.xe { s' with heap := h3 } := by
          rw [hf]
          refine HandSPX.setFlight_upZ fl3 fun h4 hh4 up4 => wpAny_throw (tk _ _ ?_)
          exact ⟨a, B, sI, pins, τ, G, cls, d, rfl, J, nb, (up.trans up3).trans up4, .inr (.inr (by rw [hs]; exact hh4)), na, os, ag, w⟩
        first
          | exact wpAny_bind (wpAny_pure (wpAny_bind fin))
          | exact wpAny_bind fin
      | @bare x cv ts b₀ suite np hp hds2 l2 hc hsu r ih =>
        rintro ⟨b, hb1, hyes, hno⟩
        refine wpAny_handleBy_cons (codeAny_handlers_test ?_) (by intro q; cases q)
        refine tests hc ((PySem.W.exm_one (M := model X.prog X.w) J3.kIn LT hb1).here ?_)
        cases b with
        | false => exact ih (hno rfl)
        | true =>
          refine codeAny_handlers_suite (HandSPX.lands_againZ fl3 fun h4 fl4 up4 => ?_)
          have J4 : Inv X pins τ G { s' with heap := h4 } := J.landed nb fl4.1 ((up.trans up3).trans up4) os ag
          obtain ⟨oe4, vs4, he4, hz4, hd4⟩ := fl4.there
          refine wpAny_mono ((hsu a oe4 cls d (X.pn ++ pins) hz4 ⟨_, hd4⟩).run [] _ _ G _ (J4.suite he4 hd4 na nL nF) (hyes rfl a na)) (fun fl s6 q6 => ?_) fun _ _ z => False.elim z
          cases fl with
          | next => obtain ⟨σ6, H6, S6, q6⟩ := q6; exact ⟨_, _, S6.unsuite ok, q6⟩
          | brk => obtain ⟨σ6, H6, S6, q6⟩ := q6; exact ⟨_, _, S6.unsuite ok, q6⟩
          | cont => obtain ⟨σ6, H6, S6, q6⟩ := q6; exact ⟨_, _, S6.unsuite ok, q6⟩
          | ret u => obtain ⟨v6, σ6, H6, S6, r6, q6⟩ := q6; exact ⟨_, _, _, S6.unsuite ok, r6, q6⟩
      | @named x n i cv ts b₀ suite np hp hds2 l2 hc hi hln hsu r ih =>
        rintro ⟨b, hb1, hyes, hno⟩
        refine wpAny_handleBy_cons (codeAny_handlers_test ?_) (by intro q; cases q)
        refine tests hc ((PySem.W.exm_one (M := model X.prog X.w) J3.kIn LT hb1).here ?_)
        cases b with
        | false => exact ih (hno rfl)
        | true =>
          refine codeAny_handlers_suite_as (HandSPX.lands_againZ fl3 fun h4 fl4 up4 => ?_)
          have J4 : Inv X pins τ G { s' with heap := h4 } := J.landed nb fl4.1 ((up.trans up3).trans up4) os ag
          obtain ⟨oe4, vs4, he4, hz4, hd4⟩ := fl4.there
          refine store_ok (X := X.suite a ((a, oe4) :: (X.pn ++ pins))) (v := .ref a) (J4.suite he4 hd4 na nL nF) hN hi (.inl hln) rfl (fun s5 S5 => ?_) (.inr hln)
          refine wpAny_mono ((hsu a oe4 cls d (X.pn ++ pins) hz4 ⟨_, hd4⟩).run [] s5 _ G _ S5 (hyes rfl a na)) (fun fl s6 q6 => ?_) fun _ _ z => False.elim z
          have end_ : ∀ {σ6 : St} {H6 : Hp} {Q : Shared → Prop}, Inv (X.suite a ((a, oe4) :: (X.pn ++ pins))) [] σ6 H6 s6 → (∀ s7, Inv X pins (σ6.set i none) H6 s7 → Q s7) →
              wpAny (model X.prog X.w) X.A (do bindName X.env n .none; unbindBehindTheSuite X.env n hp) (fun _ s7 => Q s7) X.xe s6 := fun S6 hq => gone_ok (S6.unsuite ok) hN hi hln hq
          cases fl with
          | next => obtain ⟨σ6, H6, S6, q6⟩ := q6; exact end_ S6 fun s7 J7 => ⟨_, _, J7, q6⟩
          | brk => obtain ⟨σ6, H6, S6, q6⟩ := q6; exact end_ S6 fun s7 J7 => ⟨_, _, J7, q6⟩
          | cont => obtain ⟨σ6, H6, S6, q6⟩ := q6; exact end_ S6 fun s7 J7 => ⟨_, _, J7, q6⟩
          | ret u => obtain ⟨v6, σ6, H6, S6, r6, q6⟩ := q6; exact end_ S6 fun s7 J7 => ⟨_, _, _, J7, r6, q6⟩
    exact go hh w
  · cases fl with
    | next => obtain ⟨σ', H', J', q⟩ := q; exact wpAny_execs_nil ⟨σ', H', J'.ofTry ok, q⟩
    | brk => obtain ⟨σ', H', J', q⟩ := q; exact ⟨σ', H', J'.ofTry ok, q⟩
    | cont => obtain ⟨σ', H', J', q⟩ := q; exact ⟨σ', H', J'.ofTry ok, q⟩
    | ret u => obtain ⟨v, σ', H', J', r, q⟩ := q; exact ⟨v, σ', H', J'.ofTry ok, r, q⟩
end

/-! ### suites that return: a constant, or a list of constants and of the error's fields -/
inductive SI where
  | c (v : PV) | f (n : Str)
/-- scalars as values -/
def scV : PV → Option V
  | .non => some .non
  | .bl b => some (.bl b)
  | .int i => some (.int i)
  | .str x => some (.str x)
  | _ => none
theorem scV_rep {c : Cn} {F : Hp} {v : PV} {w : V} (h : scV v = some w) : Rep c F w v := by
  cases v <;> cases h
  · exact .non
  · exact .bl _
  · exact .int _
  · exact .str _
def tCst (v : PV) : TE := match scV v with
  | some w => tC w
  | none => fun _ _ _ => False
def tItem (a : Addr) (cls : Value) (d : Option Addr) (C : Addr) (i : Nat) : SI → TE
  | .c v => tCst v
  | .f n => tXf a cls d C n (tVar i)
def tItems (a : Addr) (cls : Value) (d : Option Addr) (C : Addr) (i : Nat) : List SI → TA
  | [] => tNil
  | x :: xs => tCons (tItem a cls d C i x) (tItems a cls d C i xs)
/-- what a suite of a clause for the class k gives of the error x -/
def siVal (k : Nat) (x : Ex) : SI → Option PV
  | .c v => (scV v).map fun _ => v
  | .f n => if x.k = k then x.fs.lookup n else none
def siVals (k : Nat) (x : Ex) : List SI → Option (List PV)
  | [] => some []
  | s :: r => (siVal k x s).bind fun v => (siVals k x r).map fun vs => v :: vs
inductive HB where
  | one (v : PV) | many (l : List SI)
def hbVal (k : Nat) (x : Ex) : HB → Option PV
  | .one v => (scV v).map fun _ => v
  | .many l => (siVals k x l).bind fun vs => if vs.length ≤ sizeLine then some (.lst none vs) else none
def tHB (C : Addr) (i : Nat) (h : HB) (a : Addr) (cls : Value) (d : Option Addr) : TS := match h with
  | .one v => tRet (tItem a cls d C i (.c v))
  | .many l => tRet (tLst (tItems a cls d C i l))
/-- a clause: the class's number, its name's slot, its body -/
structure Hd where
  k : Nat
  i : Option Nat
  b : HB
def pick (ex : Nat → Nat → Option Bool) (x : Ex) : List Hd → Option (Option PV)
  | [] => some none
  | h :: r => (ex x.k h.k).bind fun b => if b = true then (hbVal h.k x h.b).map some else pick ex x r
def sTry (ex : Nat → Nat → Option Bool) (hs : List Hd) (g : GS) : GS := fun ρ => ⟨fun K E => (g ρ).run K fun e => match pick ex e.1 hs with
    | some (some v) => K (.rt v e.2)
    | some none => E e
    | none => False, fun {K K' E E'} h h' x => (g ρ).mono h (fun e z => by
      cases q : pick ex e.1 hs with
      | none => rw [q] at z; exact z
      | some o =>
        rw [q] at z
        cases o with
        | none => exact h' _ z
        | some v => exact h _ z) x⟩
section
variable {c : Cn} {X : Cx} {W : WX} {pn : Nat → Bool} {g : GS} {pos : Pos}
/-- an item of a suite's list, as it is written -/
inductive ItOk (Y : Cx) (a : Addr) (cls : Value) (d : Option Addr) (C : Addr) (i : Nat) : List Expr → List SI → Prop
  | nil : ItOk Y a cls d C i [] []
  | cons {e : Expr} {s : SI} {es : List Expr} {l : List SI} (h : PE Y e (tItem a cls d C i s)) (r : ItOk Y a cls d C i es l) (hs : starEach (e :: es) Y.env = (false, eval e Y.env) :: starEach es Y.env) : ItOk Y a cls d C i (e :: es) (s :: l)
theorem itOk_pa {Y : Cx} {a : Addr} {cls : Value} {d : Option Addr} {C : Addr} {i : Nat} {es : List Expr} {l : List SI} (h : ItOk Y a cls d C i es l) : PA Y es (tItems a cls d C i l) := by
  induction h with
  | nil => exact pa_nil
  | cons h r hs ih => exact pa_cons h ih hs
theorem suite_many {C : Addr} {i : Nat} {es : List Expr} {l : List SI} {p1 p2 : Pos} (h : ∀ (a : Addr) (oe : Obj) (cls : Value) (d : Option Addr) (pl : List (Addr × Obj)), Zc cls d oe → (∃ vs, oe.data = .fields vs) → ItOk (X.suite a ((a, oe) :: pl)) a cls d C i es l) :
    SuiteOk X [.Return (some (.List es p1)) p2] (tHB C i (.many l)) := fun a oe cls d pl hz hf => pss_one (ps_ret (pe_lst (itOk_pa (h a oe cls d pl hz hf))))
theorem suite_non {C : Addr} {i : Nat} {j : Nat} {p1 p2 : Pos} : SuiteOk X [.Return (some (.Constant .none j p1)) p2] (tHB C i (.one .non)) := fun a oe cls d pl hz hf => pss_one (ps_ret pe_non)
/-- the clauses of the text and their bodies -/
def clOf (c : Cn) (h : Hd) : Cl := (.ref (c.cA h.k), h.i, tHB (c.cA h.k) (h.i.getD 0) h.b)
theorem items_run {a : Addr} {cls : Value} {d : Option Addr} {i k : Nat} {x : Ex} {F H : Hp} {σ : St} (hc : cls = .ref (c.cA x.k)) (hd : ExD c F H d x.fs) :
    ∀ {l : List SI} {vs : List PV} {Q : List V → Hp → Prop}, (∀ n, SI.f n ∈ l → σ[i]? = some (some (.ref a))) → siVals k x l = some vs → (∀ ws, Reps c F ws vs → Q ws H) → tItems a cls d (c.cA k) i l σ H Q := by
  intro l
  induction l with
  | nil => intro vs Q _ e q; cases e; exact q [] .nil
  | cons s l ih =>
    intro vs Q hf e q
    obtain ⟨v, e1, e2⟩ := Option.bind_eq_some_iff.mp (show (siVal k x s).bind _ = some vs from e)
    obtain ⟨us, e3, rfl⟩ := Option.map_eq_some_iff.mp e2
    have rest : ∀ w, Rep c F w v → tItems a cls d (c.cA k) i l σ H fun xs H2 => Q (w :: xs) H2 := fun w r => ih (fun n hn => hf n (List.mem_cons_of_mem _ hn)) e3 fun ws rs => q (w :: ws) (.cons r rs)
    cases s with
    | c u =>
      obtain ⟨w, h1, rfl⟩ := Option.map_eq_some_iff.mp (show (scV u).map (fun _ => u) = some v from e1)
      show tCst u σ H _
      unfold tCst
      rw [h1]
      exact rest w (scV_rep h1)
    | f n =>
      have e4 : (if x.k = k then x.fs.lookup n else none) = some v := e1
      by_cases hk : x.k = k
      · rw [if_pos hk] at e4
        rcases hd with ⟨d', ws, e5, hx, r⟩ | ⟨_, e5⟩
        · obtain ⟨w, h1, h2⟩ := r.lookup e4
          exact ⟨.ref a, hf n List.mem_cons_self, rfl, by rw [hc, hk], d', ws, w, e5, hx, h1, rest w h2⟩
        · rw [e5] at e4
          cases e4
      · rw [if_neg hk] at e4
        cases e4
/-- how errors and clauses go together -/
def ExmOk (c : Cn) (ex : Nat → Nat → Option Bool) : Prop := ∀ k j b, ex k j = some b → PySem.W.exmOne c.K (.ref (c.cA k)) (.ref (c.cA j)) = some b
theorem wMix_pick {ex : Nat → Nat → Option Bool} (hx : ExmOk c ex) {σ : St} {ρ' : Env'} {F H : Hp} {x : Ex} {D : Ends} {d : Option Addr} {Wo : WX} (er : ER c F H σ ρ') (hd : ExD c F H d x.fs) : ∀ {hs : List Hd}, (∀ h ∈ hs, ∀ l, h.b = .many l → (∃ n, SI.f n ∈ l) → ∃ i, h.i = some i ∧ i < σ.length) →
    (match pick ex x hs with
      | some (some v) => ∀ w F' H', Grow F H F' H' → Rep c F' w v → D.rt w H'
      | some none => Wo (.ref (c.cA x.k)) d σ H
      | none => False) → wMix c.K Wo D (hs.map (clOf c)) (.ref (c.cA x.k)) d σ H
  | [], _, q => q
  | h :: r, hn, q => by
    unfold pick at q
    cases e : ex x.k h.k with
    | none => rw [e] at q; exact q.elim
    | some b =>
      rw [e] at q
      simp only [Option.bind_some] at q
      refine ⟨b, hx _ _ _ e, fun eb a ha => ?_, fun eb => ?_⟩
      · subst eb
        rw [if_pos rfl] at q
        have rt : ∀ w H', (suiteEnds D h.i).rt w H' = D.rt w H' := fun w H' => by cases h.i <;> rfl
        cases hb : h.b with
        | one v =>
          rw [hb] at q
          show tHB (c.cA h.k) (h.i.getD 0) h.b a _ d _ _ _
          rw [hb]
          cases ev : scV v with
          | none =>
            have e2 : hbVal h.k x (.one v) = none := by show (scV v).map (fun _ => v) = none; rw [ev]; rfl
            rw [e2] at q
            exact q.elim
          | some w =>
            have e2 : hbVal h.k x (.one v) = some v := by show (scV v).map (fun _ => v) = some v; rw [ev]; rfl
            rw [e2] at q
            show tCst v _ _ _
            unfold tCst
            rw [ev]
            show (suiteEnds D h.i).rt w H
            rw [rt]
            exact q w F H (Grow.refl er.sub) (scV_rep ev)
        | many l =>
          rw [hb] at q
          show tHB (c.cA h.k) (h.i.getD 0) h.b a _ d _ _ _
          rw [hb]
          cases ev : siVals h.k x l with
          | none =>
            have e2 : hbVal h.k x (.many l) = none := by show (siVals h.k x l).bind _ = none; rw [ev]; rfl
            rw [e2] at q
            exact q.elim
          | some vs =>
            by_cases hz : vs.length ≤ sizeLine
            · have e2 : hbVal h.k x (.many l) = some (.lst none vs) := by show (siVals h.k x l).bind (fun vs => if vs.length ≤ sizeLine then some (PV.lst none vs) else none) = _; rw [ev]; exact if_pos hz
              rw [e2] at q
              show tLst (tItems a _ d (c.cA h.k) (h.i.getD 0) l) _ _ _
              refine items_run (x := x) rfl hd (fun n hf => ?_) ev fun ws rs => ⟨by rw [rs.length]; exact hz, fun p hp => ?_⟩
              · obtain ⟨i, hi, hl⟩ := hn h List.mem_cons_self l hb ⟨n, hf⟩
                have e5 : (suiteSt σ a h.i)[h.i.getD 0]? = some (some (.ref a)) := by
                  rw [hi]
                  exact List.getElem?_set_self hl
                exact e5
              · show (suiteEnds D h.i).rt _ _
                rw [rt]
                have gr := upd_grow (o := .lst ws) er.sub hp
                exact q _ _ _ gr (.lst upd_same (rs.mono gr.ff) fun _ z => nomatch z)
            · have e2 : hbVal h.k x (.many l) = none := by show (siVals h.k x l).bind (fun vs => if vs.length ≤ sizeLine then some (PV.lst none vs) else none) = _; rw [ev]; exact if_neg hz
              rw [e2] at q
              exact q.elim
      · subst eb
        rw [if_neg Bool.false_ne_true] at q
        exact wMix_pick hx er hd (fun h' hm => hn h' (List.mem_cons_of_mem _ hm)) q
theorem vs_try {ex : Nat → Nat → Option Bool} {body : List Stmt} {h₀ : ExceptHandler} {hds : List ExceptHandler} {hs : List Hd} (hk : c.K = X.K) (h1 : X.stack = X.env :: X.outer) (h2 : X.env.frame = some X.env.locals) (hN : X.N.Nodup) (tk : Takes X W) (hx : ExmOk c ex)
    (hb : ∀ (W : WX) (pl : List (Addr × Obj)) (xe : Value → Shared → Prop), Takes (X.tr pl xe) W → PassesOwn (model X.prog X.w) X.A X.env xe → PSs (X.tr pl xe) body (tS c pn W g))
    (hh : ClsOk X (h₀ :: hds) (hs.map (clOf c))) (hn : ∀ h ∈ hs, ∀ l, h.b = .many l → (∃ n, SI.f n ∈ l) → ∃ i, h.i = some i ∧ i < X.N.length) : PS X (.Try body (h₀ :: hds) [] [] pos) (tS c pn W (sTry ex hs g)) := by
  refine ⟨fun pins s σ H D I ⟨ρ, F, er, z⟩ => ?_⟩
  refine (ps_try_mix h1 h2 hN tk hb hh).run pins s σ H D I ⟨ρ, F, er, (g ρ).mono (fun _ q => q) (fun e q d σ' F' H' s' hd => ?_) z⟩
  have hl : σ'.length = X.N.length := s'.2.2.2.trans I.len
  rw [← hk]
  refine wMix_pick hx s'.2.1 hd (fun h hm l e1 e2 => by rw [hl]; exact hn h hm l e1 e2) ?_
  cases hp : pick ex e.1 hs with
  | none => rw [hp] at q; exact q.elim
  | some o =>
    rw [hp] at q
    cases o with
    | none => exact q d σ' F' H' s' hd
    | some v => exact fun w F2 H2 gr r => q w σ' F2 H2 (s'.trans ⟨gr.stp _, s'.2.1.grow gr, fun _ _ => rfl, rfl⟩) r
end
end VL

set_option Elab.async false
set_option linter.all false
set_option maxRecDepth 100000
set_option maxHeartbeats 1000000
/-! VL, part 10: raise; lists of one's own; the law's box of digits. -/
namespace VL
open PySem PySem.Spec PyProof.Rows L2

/-! ### raise C(e), C an own class with one field -/
/-- what the __init__ of an error with one field leaves -/
def spInit (C : Addr) (f : Str) : Sp := fun vs H Q _ => ∃ (a : Addr) (y : V), vs = [.ref a, y] ∧ H a = some (exo a C none) ∧ ∀ dx, H dx = none → dx ≠ a → Q .non (upd (upd H dx (exd dx [(f, y)])) a (exo a C (some dx)))
/-- the class x, number k, with one field f -/
structure Ec (P : Program) (w : World) (K : PySem.W.Frag) (mg : Str → Option Value) (base : Heap) (c : Cn) (j : Nat) (x : Str) (k : Nat) (f : Str) : Prop where
  gC : mg x = some (.ref (c.cA k))
  T : OexC K (c.cA k)
  ex : ∃ (fI : Addr) (fd : FuncData) (ps : List Str), ps.length = 2 ∧ PySem.W.findIn K (.ref (c.cA k)) "__init__" = some (some (.ref fI)) ∧ PySem.W.typeIn K (.ref fI) = some (.type "function") ∧
    FnOk P w K mg base (L2.CX P w) j fI fd ps (spInit (c.cA k) f) ∧ Binds K fd ps []
def sRaise (k : Nat) (f : Str) (g : GE) : GS := fun ρ => (g ρ).bind fun a => .raise (⟨k, [(f, a.1)]⟩, a.2)
section
variable {c : Cn} {X : Cx} {W : WX} {pn : Nat → Bool} {e : Expr} {ge : GE} {pos pos2 p : Pos}
theorem vs_raise {x f : Str} {k j r : Nat} (hk : c.K = X.K) (T : Ec X.prog X.w X.K X.mg X.base c j x k f) (hr : Room r X.A) (hj : j + 1 ≤ r) (hc : X.calm = true) (tk : Takes X W) (hg : Gl X x) (he : PE X e (tE c W ge))
    (hdb : (x == ("__debug__" : Str)) = false := by decide) (hs : starEach [e] X.env = (false, eval e X.env) :: starEach [] X.env := by rfl) :
    PS X (.Raise (some (.Call (.Name x p) [e] [] pos)) none pos2) (tS c pn W (sRaise k f ge)) := by
  obtain ⟨fI, fd, ps, hp, iC, tI', G, hb⟩ := T.ex
  refine imp_PS (ps_raise hc tk (pmk_oex (C := c.cA k) T.T iC tI' G (hr.mono hj) hb .nil passL hg T.gC (pa_cons he pa_nil hs) hdb hs)) fun D σ H ⟨ρ, F, er, z⟩ => ?_
  refine tE_bindS er z fun v ρ1 w F1 H1 st rep h1 => ⟨by show 1 ≤ 1000; decide, fun a ha => ⟨a, w, rfl, upd_same, fun dx hd hne => ⟨rfl, dx, [(f, w)], upd_same, ?_, ?_, ?_⟩⟩⟩
  · rw [upd_ne hne, upd_same]
  · rw [upd_ne hne] at hd
    exact hd
  · have hd : H1 dx = none := by rw [upd_ne hne] at hd; exact hd
    have gr : Grow F1 H1 F1 (upd (del (upd (upd (upd H1 a (exo a (c.cA k) none)) dx (exd dx [(f, w)])) a (exo a (c.cA k) (some dx))) a) dx (.xd [(f, w)])) := by
      have hh : Same H1 (upd (del (upd (upd (upd H1 a (exo a (c.cA k) none)) dx (exd dx [(f, w)])) a (exo a (c.cA k) (some dx))) a) dx (.xd [(f, w)])) := fun b o q => by
        have n1 := ne_of_none q ha
        have n2 := ne_of_none q hd
        rw [upd_ne n2, del_ne n1, upd_ne n1, upd_ne n2, upd_ne n1]
        exact q
      exact ⟨Same.refl F1, hh, st.2.sub.trans hh, fun _ _ _ z => z⟩
    exact h1 (some dx) σ F1 _ ⟨gr.stp _, st.2.grow gr, fun _ _ => rfl, rfl⟩ (.inl ⟨dx, [(f, w)], rfl, upd_same, .cons rep .nil⟩)
end

/-! ### a list of one's own: read -/
def eIxO (i : Nat) (g : GE) : GE := fun ρ => if ownAt ρ i = true then (g ρ).bind fun a => match a.2[i]? with
  | some (.ow xs) => lift (pIx (.lst none xs) a.1) a.2
  | _ => .stuck
  else .stuck
/-- an operation on it whose result is a scalar -/
def oneO (f : PV → Option PV) (i : Nat) (ρ : Env') : Wp XE' (PV × Env') := match ρ[i]? with
  | some (.ow xs) => match f (.lst none xs) with
    | some v => if (scV v).isSome = true then .ret (v, ρ) else .stuck
    | none => .stuck
  | _ => .stuck
def eO1 (f : PV → Option PV) (i : Nat) : GE := oneO f i
/-- e op x -/
def eO2 (f : PV → PV → Option PV) (g : GE) (i : Nat) : GE := fun ρ => (g ρ).bind fun a => oneO (f a.1) i a.2
section
variable {c : Cn} {X : Cx} {W : WX} {pn : Nat → Bool} {a b e : Expr} {ga gb : GE} {pos p : Pos} {i : Nat}
theorem ownAt_ow {F H : Hp} {σ : St} {ρ : Env'} {xs : List PV} (h : ρ[i]? = some (.ow xs)) : ownAt ρ i = true := by unfold ownAt; rw [h]; rfl
theorem ve_ixO {ga : GE} (hk : c.K = X.K) (ho : PE X a (tVar i)) (hb : PE X b (tE c W ga)) (hs : PlainIx b := by intro _ _; rfl) : PE X (.Subscript a b pos) (tE c W (eIxO i ga)) := imp_PE (pe_ix ix_list ho hb hs) fun σ H Q ⟨ρ, F, er, z⟩ => by
  unfold eIxO at z
  by_cases ho : ownAt ρ i = true
  · rw [if_pos ho] at z
    obtain ⟨u, hu⟩ := ownAt_val er ho
    refine ⟨u, hu, tE_bind er z fun v ρ1 w F1 H1 st rep h1 => ?_⟩
    dsimp only at h1
    split at h1
    · rename_i xs hi
      obtain ⟨y, e, h4⟩ := lift_run h1
      obtain ⟨q, vs, e1, hF, hH, r⟩ := st.2.ow hi
      rw [hu] at e1
      cases e1
      cases rep with
      | int k =>
        obtain ⟨w, h2, h3⟩ := r.atI (show L2.atI xs k = some y from e)
        exact ⟨q, vs, k, w, rfl, rfl, SqL.of hH, h2, h4 w F1 H1 st h3⟩
      | _ => cases e
    · exact h1.elim
  · rw [if_neg ho] at z
    exact z.elim
theorem scalar_rep {F F' : Hp} {w : V} {v : PV} (h : (scV v).isSome = true) (r : Rep c F w v) : Rep c F' w v := by
  cases r with
  | non => exact .non
  | bl b => exact .bl b
  | int j => exact .int j
  | str x => exact .str x
  | _ => cases h
/-- a list of one's own is a tree of the whole heap -/
theorem ow_rep {F H : Hp} {σ : St} {ρ : Env'} {xs : List PV} (er : ER c F H σ ρ) (h : ρ[i]? = some (.ow xs)) : ∃ w, σ[i]? = some (some w) ∧ Rep c H w (.lst none xs) := by
  obtain ⟨q, vs, e1, hF, hH, r⟩ := er.ow h
  exact ⟨.ref q, e1, .lst hH (r.mono er.sub) fun _ z => nomatch z⟩
theorem oneO_run {f : PV → Option PV} {r : V → Hp → VK → Prop} (hf : Op1 c f r) {σ : St} {ρ ρ0 : Env'} {F H F0 H0 : Hp} {Q : VK} {E : XE' → Prop} (st : StpE c σ ρ0 F0 H0 ρ F H) (z : (oneO f i ρ).run (OkE c σ ρ0 F0 H0 Q) E) : ∃ w, σ[i]? = some (some w) ∧ r w H Q := by
  unfold oneO at z
  split at z
  · rename_i xs hi
    obtain ⟨w, h1, h2⟩ := ow_rep st.2 hi
    refine ⟨w, h1, ?_⟩
    split at z
    · rename_i v hv
      split at z
      · rename_i hs
        exact hf H H w _ v Q (Same.refl H) h2 hv fun u F' H' gr rp => z u F H' (st.trans (Grow.stpE st.2 ⟨Same.refl F, gr.hh, st.2.sub.trans gr.hh, fun _ _ _ q => q⟩)) (scalar_rep hs rp)
      · exact z.elim
    · exact z.elim
  · exact z.elim
theorem oneO_pre {f : PV → Option PV} {ρ : Env'} {K : PV × Env' → Prop} {E : XE' → Prop} (z : (oneO f i ρ).run K E) : ∃ xs, ρ[i]? = some (.ow xs) := by
  unfold oneO at z
  split at z
  · rename_i xs hi
    exact ⟨xs, hi⟩
  · exact z.elim
theorem ve_callBO {x : Str} {id : String} {r : List V → Hp → VK → Prop} {f : PV → Option PV} (hc : CallR X (.builtin id) r) (hf : Op1 c f fun x => r [x]) (hg : Gl X x) (hm : X.mg x = none) (hv : bootBuiltins x = some (.builtin id)) (ha : PE X a (tVar i))
    (hn : x ≠ "__name__" := by decide) (hdb : (x == ("__debug__" : Str)) = false := by decide) (he : starEach [a] X.env = (false, eval a X.env) :: starEach [] X.env := by rfl) : PE X (.Call (.Name x p) [a] [] pos) (tE c W (eO1 f i)) :=
  imp_PE (pe_callB hc hg hm hv (pa_cons ha pa_nil he) hn hdb he) fun σ H Q ⟨ρ, F, er, z⟩ => oneO_run hf (StpE.refl er) z
theorem oneO_run2 {f : PV → PV → Option PV} {r : R2} (hf : Op2 c f r) {σ : St} {ρ ρ0 : Env'} {F H F0 H0 : Hp} {Q : VK} {E : XE' → Prop} {y : V} {u : PV} (ry : Rep c F y u) (st : StpE c σ ρ0 F0 H0 ρ F H) (z : (oneO (f u) i ρ).run (OkE c σ ρ0 F0 H0 Q) E) :
    ∃ w, σ[i]? = some (some w) ∧ r y w H Q := by
  unfold oneO at z
  split at z
  · rename_i xs hi
    obtain ⟨w, h1, h2⟩ := ow_rep st.2 hi
    refine ⟨w, h1, ?_⟩
    split at z
    · rename_i v hv
      split at z
      · rename_i hs
        exact hf H H y w u _ v Q (Same.refl H) (ry.mono st.2.sub) h2 hv fun u F' H' gr rp => z u F H' (st.trans (Grow.stpE st.2 ⟨Same.refl F, gr.hh, st.2.sub.trans gr.hh, fun _ _ _ q => q⟩)) (scalar_rep hs rp)
      · exact z.elim
    · exact z.elim
  · exact z.elim
/-- e in x -/
theorem ve_cmpO {op : CmpOp} {r : R2} {f : PV → PV → Option PV} (ho : OpR X (compareOp op) r) (hf : Op2 c f r) (hm : behindInMarks op b = false) (ha : PE X a (tE c W ga)) (hb : PE X b (tVar i)) :
    PE X (.Compare a [op] [b] pos) (tE c W (eO2 f ga i)) := imp_PE (pe_cmpR ho ha hb hm) fun σ H Q ⟨ρ, F, er, z⟩ => tE_bind er z fun v ρ1 w F1 H1 st rep h1 => oneO_run2 hf rep st h1
/-- x == e -/
def eO3 (f : PV → PV → Option PV) (i : Nat) (g : GE) : GE := fun ρ => if ownAt ρ i = true then (g ρ).bind fun a => oneO (fun u => f u a.1) i a.2 else .stuck
theorem ve_cmpO3 {op : CmpOp} {r : R2} {f : PV → PV → Option PV} (ho : OpR X (compareOp op) r) (hf : Op2 c f r) (hm : behindInMarks op b = false) (ha : PE X a (tVar i)) (hb : PE X b (tE c W ga)) :
    PE X (.Compare a [op] [b] pos) (tE c W (eO3 f i ga)) := imp_PE (pe_cmpR ho ha hb hm) fun σ H Q ⟨ρ, F, er, z⟩ => by
  unfold eO3 at z
  by_cases h : ownAt ρ i = true
  · rw [if_pos h] at z
    obtain ⟨u, hu⟩ := ownAt_val er h
    refine ⟨u, hu, tE_bind er z fun v ρ1 w F1 H1 st rep h1 => ?_⟩
    obtain ⟨u', h2, h3⟩ := oneO_run2 (f := fun a b => f b a) (r := fun x y H Q => r y x H Q) (fun F H x y a b v Q s ra rb e q => hf F H y x b a v Q s rb ra e q) rep st h1
    rw [hu] at h2
    cases h2
    exact h3
  · rw [if_neg h] at z
    exact z.elim

/-! ### .. written -/
def sAppO (i : Nat) (g : GE) : GS := fun ρ => if ownAt ρ i = true then (g ρ).bind fun a => match a.2[i]? with
  | some (.ow xs) => if xs.length < sizeLine then .ret (.nx (a.2.set i (.ow (xs ++ [a.1])))) else .stuck
  | _ => .stuck
  else .stuck
def sPutO (i : Nat) (gk gv : GE) : GS := fun ρ => (gv ρ).bind fun v => if ownAt v.2 i = true then (gk v.2).bind fun k => match k.2[i]? with
  | some (.ow xs) => match k.1 with
    | .int z => match ixN xs.length z with
      | some j => .ret (.nx (k.2.set i (.ow (xs.set j v.1))))
      | none => .stuck
    | _ => .stuck
  | _ => .stuck
  else .stuck
/-- what stands at a list of one's own is changed -/
theorem put_own {F H : Hp} {σ : St} {ρ : Env'} {q : Addr} {vs ws : List V} {xs ys : List PV} (er : ER c F H σ ρ) (hi : ρ[i]? = some (.ow xs)) (hq : σ[i]? = some (some (.ref q))) (hF : F q = none) (hH : H q = some (.lst vs)) (r : Reps c F ws ys) :
    StpS c pn σ ρ F H σ (ρ.set i (.ow ys)) F (upd H q (.lst ws)) := by
  have hil : i < ρ.length := (List.getElem?_eq_some_iff.mp hi).1
  have get : ∀ {j : Nat} {s : SV}, (ρ.set i (.ow ys))[j]? = some s → s.own = true → ∃ t, ρ[j]? = some t ∧ t.own = true := fun {j s} h o => by
    by_cases hj : i = j
    · subst hj; exact ⟨_, hi, rfl⟩
    · rw [List.getElem?_set_ne hj] at h; exact ⟨s, h, o⟩
  have oq : Own σ ρ q := ⟨i, _, hq, hi, rfl⟩
  refine ⟨⟨Same.refl F, fun p o e n => ⟨?_, fun z => z⟩, fun p o e => ?_, fun p ⟨j, s, a, b, d⟩ => ?_⟩, ⟨fun b u h => ?_, by rw [List.length_set]; exact er.len, fun j o s a b => ?_, fun j k s t p a b a' b' d d' => ?_⟩, fun _ _ => rfl, rfl⟩
  · rw [upd_ne fun z => n (by rw [z]; exact oq)]; exact e
  · by_cases hp : p = q
    · subst hp; exact ⟨_, upd_same⟩
    · exact ⟨o, by rw [upd_ne hp]; exact e⟩
  · obtain ⟨t, h1, h2⟩ := get b d
    exact .inl ⟨j, t, a, h1, h2⟩
  · rw [upd_ne (ne_of_none h hF)]; exact er.sub _ _ h
  · by_cases hj : i = j
    · subst hj
      rw [List.getElem?_set_self hil] at b
      cases b
      rw [hq] at a
      cases a
      exact ⟨q, ws, rfl, hF, upd_same, r⟩
    · rw [List.getElem?_set_ne hj] at b
      have z := er.slot j o s a b
      have ne : ∀ p, o = some (.ref p) → s.own = true → p ≠ q := fun p e1 e2 e3 => by
        subst e3
        subst e1
        exact hj (er.dis i j (.ow xs) s p hq a hi b rfl e2)
      cases s with
      | un => trivial
      | fz x => exact z
      | ow zs => obtain ⟨p, us, e, f, h, rp⟩ := z; exact ⟨p, us, e, f, by rw [upd_ne (ne p e rfl)]; exact h, rp⟩
      | bx n => obtain ⟨p, us, e, f, h, rp⟩ := z; exact ⟨p, us, e, f, by rw [upd_ne (ne p e rfl)]; exact h, rp⟩
  · obtain ⟨t1, h1, h2⟩ := get a' d
    obtain ⟨t2, h3, h4⟩ := get b' d'
    exact er.dis j k t1 t2 p a b h1 h3 h2 h4
theorem vs_appO {o : Expr} {apos : Pos} (ho : PE X o (tVar i)) (ha : PE X a (tE c W ga)) (hbase : attributeBase o "append" X.env (eval o X.env) = eval o X.env := by rfl)
    (hfew : ((backTo p (starEach [a] X.env)).all (fun x => !x.1) && (backToKw p (keywordEach [] X.env)).all (fun x => x.1.isSome) && decide ([a].length + ([] : List Keyword).length + (if ([] : List Keyword).isEmpty then 0 else 1) < 30)) = true := by rfl)
    (hline : (apos.endLine == p.line) = true := by rfl) (hs : starEach [a] X.env = (false, eval a X.env) :: starEach [] X.env := by rfl) (hsw : swapsWith (.Call (.Attribute o "append" apos) [a] [] p) none pos.line X.env = pure false := by rfl) :
    PS X (.Expr (.Call (.Attribute o "append" apos) [a] [] p) pos) (tS c pn W (sAppO i ga)) :=
  imp_PS (ps_expr (pe_bm PySem.F.plainAttrs_list PySem.F.slot_list_append PySem.F.type_list_append mt_append ho (pa_cons ha pa_nil hs) hbase hfew hline hs) hsw) fun D σ H ⟨ρ, F, er, z⟩ => by
    unfold sAppO at z
    by_cases h : ownAt ρ i = true
    · rw [if_pos h] at z
      obtain ⟨u, hu⟩ := ownAt_val er h
      obtain ⟨q0, vs0, e0, hq0⟩ : ∃ q vs, u = .ref q ∧ H q = some (.lst vs) := by
        unfold ownAt at h
        split at h
        · rename_i s hs'
          have z0 := er.slot i _ s hu hs'
          cases s with
          | un => cases h
          | fz v => cases h
          | ow xs => obtain ⟨p, vs, e, _, e2, _⟩ := z0; cases e; exact ⟨p, vs, rfl, e2⟩
          | bx n => obtain ⟨p, vs, e, _, e2, _⟩ := z0; cases e; exact ⟨p, vs, rfl, e2⟩
        · cases h
      subst e0
      refine ⟨.ref q0, hu, .inl ⟨rfl, _, SqL.of hq0⟩, tE_bindS er z fun v ρ1 w F1 H1 st rep h1 => ?_⟩
      dsimp only at h1
      split at h1
      · rename_i xs hi
        obtain ⟨q, vs, e1, hF, hH, r⟩ := st.2.ow hi
        rw [hu] at e1
        cases e1
        split at h1
        · rename_i hz
          exact ⟨_, vs, w, rfl, rfl, hH, by rw [r.length]; exact hz, h1 σ F1 _ (put_own st.2 hi hu hF hH (r.append (.cons rep .nil)))⟩
        · exact h1.elim
      · exact h1.elim
    · rw [if_neg h] at z
      exact z.elim
theorem vs_putO {o k v : Expr} {gk gv : GE} {tpos : Pos} (ho : PE X o (tVar i)) (hk : PE X k (tE c W gk)) (hv : PE X v (tE c W gv))
    (ha : ∀ v, assign (.Subscript o k tpos) X.env v = (do
      let ov ← holding [v] (eval o X.env)
      let iv ← holding [v, ov] (eval k X.env)
      standAt tpos
      holding [v, ov, iv] (setItem ov iv v)
      release [v, ov, iv] []) := by intro _; rfl)
    (hs : swapsWithSole [.Subscript o k tpos] v pos.line X.env = pure false := by rfl) (hw : swappedStores [.Subscript o k tpos] v X.env = pure none := by rfl)
    (h1 : (assignEach [.Subscript o k tpos] X.env).map (·.2) = [assign (.Subscript o k tpos) X.env] := by rfl) : PS X (.Assign [.Subscript o k tpos] v pos) (tS c pn W (sPutO i gk gv)) :=
  imp_PS (ps_asg hv (pg_sub ho hk set_list ha) hs hw h1) fun D σ H ⟨ρ, F, er, z⟩ => tE_bindS er z fun v ρ1 w F1 H1 st rep h1 => by
    dsimp only at h1
    by_cases h : ownAt ρ1 i = true
    · rw [if_pos h] at h1
      obtain ⟨u, hu⟩ := ownAt_val st.2 h
      refine ⟨u, hu, tE_bindS st.2 h1 fun k ρ2 y F2 H2 st2 rep2 h2 => ?_⟩
      dsimp only at h2
      split at h2
      · rename_i xs hi
        obtain ⟨q, vs, e1, hF, hH, r⟩ := st2.2.ow hi
        rw [hu] at e1
        have e2 : u = V.ref q := Option.some.inj (Option.some.inj e1)
        subst e2
        split at h2
        · rename_i z
          split at h2
          · rename_i j hj
            cases rep2
            exact ⟨_, vs, z, j, rfl, rfl, hH, by rw [r.length]; exact hj, h2 σ F2 _ (put_own st2.2 hi hu hF hH (r.set (rep.mono st2.1.ff) j))⟩
          · exact h2.elim
        · exact h2.elim
      · exact h2.elim
    · rw [if_neg h] at h1
      exact h1.elim
end
end VL

set_option Elab.async false
set_option linter.all false
set_option maxRecDepth 100000
set_option maxHeartbeats 1000000
/-! VL, part 11: words for printed proofs. -/
namespace VL
open PySem PySem.Spec PyProof.Rows L2

/-! ### the built-ins' names -/
theorem b_len : bootBuiltins "len" = some (.builtin "len") := by decide +kernel
theorem b_abs : bootBuiltins "abs" = some (.builtin "abs") := by decide +kernel
theorem b_max : bootBuiltins "max" = some (.builtin "max") := by decide +kernel
theorem b_min : bootBuiltins "min" = some (.builtin "min") := by decide +kernel
theorem b_sum : bootBuiltins "sum" = some (.builtin "sum") := by decide +kernel
theorem b_all : bootBuiltins "all" = some (.builtin "all") := by decide +kernel
theorem b_any : bootBuiltins "any" = some (.builtin "any") := by decide +kernel
theorem b_sorted : bootBuiltins "sorted" = some (.builtin "sorted") := by decide +kernel
theorem b_isinstance : bootBuiltins "isinstance" = some (.builtin "isinstance") := by decide +kernel
theorem b_int : bootBuiltins "int" = some (.type "int") := by decide +kernel
theorem b_bool : bootBuiltins "bool" = some (.type "bool") := by decide +kernel
theorem b_str : bootBuiltins "str" = some (.type "str") := by decide +kernel
theorem b_list : bootBuiltins "list" = some (.type "list") := by decide +kernel
theorem b_tuple : bootBuiltins "tuple" = some (.type "tuple") := by decide +kernel
theorem b_dict : bootBuiltins "dict" = some (.type "dict") := by decide +kernel
theorem b_set : bootBuiltins "set" = some (.type "set") := by decide +kernel
def noPin : Nat → Bool := fun _ => false
def pin0 : Nat → Bool := fun i => i == 0
theorem hu65 {k : Nat} {A : Around} (hr : Room k A) : A.units + 65 < cLine := by have := hr.un; omega
theorem hu64 {k : Nat} {A : Around} (hr : Room k A) : A.units + 64 < cLine := hr.units
theorem hu1 {k : Nat} {A : Around} (hr : Room k A) : A.units + 1 < cLine := hu_of hr
/-- a def of the text at its name -/
def Dh (K : PySem.W.Frag) (mg : Str → Option Value) (x : Str) (st : Stmt) : Prop := ∃ (f : Addr) (fd : FuncData), mg x = some (.ref f) ∧ Fun K x x st f fd

/-! ### a op b op c -/
def eChain (f h : PV → PV → Option PV) (ga gb gc : GE) : GE := fun ρ => (ga ρ).bind fun a => (gb a.2).bind fun b => match f a.1 b.1 with
  | some (.bl true) => (gc b.2).bind fun d => lift (h b.1 d.1) d.2
  | some (.bl false) => .ret (.bl false, b.2)
  | _ => .stuck
section
variable {c : Cn} {X : Cx} {W : WX} {pn : Nat → Bool} {a b d : Expr} {ga gb gc : GE} {pos : Pos}
/-- an operation that gives a bool at the heap as it stands -/
def Op2B (c : Cn) (f : PV → PV → Option PV) (r : R2) : Prop := ∀ (F H : Hp) (x y : V) (a b : PV) (k : Bool) (Q : VK), Same F H → Rep c F x a → Rep c F y b → f a b = some (.bl k) → Q (.bl k) H → r x y H Q
theorem o_ltB : Op2B c pLt (rI0 fun i j => .bl (decide (i < j))) := fun F H x y a b k Q s ra rb e q => by
  cases ra <;> cases rb <;> first | (cases e; exact ⟨_, _, rfl, rfl, q⟩) | cases e
theorem o_leB : Op2B c pLe (rI0 fun i j => .bl (decide (i ≤ j))) := fun F H x y a b k Q s ra rb e q => by
  cases ra <;> cases rb <;> first | (cases e; exact ⟨_, _, rfl, rfl, q⟩) | cases e
theorem o_gtB : Op2B c pGt (rI0 fun i j => .bl (decide (j < i))) := fun F H x y a b k Q s ra rb e q => by
  cases ra <;> cases rb <;> first | (cases e; exact ⟨_, _, rfl, rfl, q⟩) | cases e
theorem o_geB : Op2B c pGe (rI0 fun i j => .bl (decide (j ≤ i))) := fun F H x y a b k Q s ra rb e q => by
  cases ra <;> cases rb <;> first | (cases e; exact ⟨_, _, rfl, rfl, q⟩) | cases e
theorem chain_run {r r' : R2} {f h : PV → PV → Option PV} (hf : Op2B c f r) (hh : Op2 c h r') {σ : St} {H : Hp} {Q : VK} (z : tE c W (eChain f h ga gb gc) σ H Q) : tChain r r' (tE c W ga) (tE c W gb) (tE c W gc) σ H Q := by
  obtain ⟨ρ, F, er, z⟩ := z
  refine tE_bind er z fun v ρ1 w F1 H1 st rep h1 => tE_bind st.2 h1 fun u ρ2 y F2 H2 st2 rep2 h2 => ?_
  dsimp only at h2
  split at h2
  · rename_i e
    refine hf F2 H2 w y v u true _ st2.2.sub (rep.mono st2.1.ff) rep2 e ⟨true, rfl, ?_⟩
    rw [if_pos rfl]
    refine tE_bind st2.2 h2 fun t ρ3 x F3 H3 st3 rep3 h3 => ?_
    obtain ⟨q, e, h4⟩ := lift_run h3
    exact hh F3 H3 y x u t q Q st3.2.sub (rep2.mono st3.1.ff) rep3 e fun w' F' H' gr r => h4 w' F' H' (st.trans (st2.trans (st3.trans (gr.stpE st3.2)))) r
  · rename_i e
    refine hf F2 H2 w y v u false _ st2.2.sub (rep.mono st2.1.ff) rep2 e ⟨false, rfl, ?_⟩
    rw [if_neg Bool.false_ne_true]
    exact h2 _ F2 H2 (st.trans st2) (.bl false)
  · exact h2.elim
theorem ve_chain {op op' : CmpOp} {r r' : R2} {f h : PV → PV → Option PV} (ho : OpR X (compareOp op) r) (hf : Op2B c f r) (ho' : OpR X (compareOp op') r') (hh : Op2 c h r') (ha : PE X a (tE c W ga)) (hb : PE X b (tE c W gb)) (hd : PE X d (tE c W gc))
    (hm : lastMarks [op, op'] [b, d] = false := by with_unfolding_all rfl) : PE X (.Compare a [op, op'] [b, d] pos) (tE c W (eChain f h ga gb gc)) := imp_PE (pe_chain ho ho' ha hb hd hm) fun _ _ _ z => chain_run hf hh z
theorem vt_chain {op op' : CmpOp} {r r' : R2} {f h : PV → PV → Option PV} (ho : OpR X (compareOp op) r) (hf : Op2B c f r) (ho' : OpR X (compareOp op') r') (hh : Op2 c h r') (ha : PE X a (tE c W ga)) (hb : PE X b (tE c W gb)) (hd : PE X d (tE c W gc))
    (hm : lastMarks [op, op'] [b, d] = false := by with_unfolding_all rfl) : PT X (.Compare a [op, op'] [b, d] pos) (tT c W (gBl (eChain f h ga gb gc))) :=
  imp_PT (pt_chain ho ho' ha hb hd hm) fun σ H Q z => chain_run (W := W) (Q := fun x H' => ∃ k, x = .bl k ∧ Q k H') hf hh (gBl_use z)
theorem vt_pw {e : Expr} {g : GT} (h : PW X e (tT c W g)) : PT X e (tT c W g) := h.pt
end

/-! ### name = a comprehension, the name a plain local -/
section
variable {c : Cn} {X : Cx} {W : WX} {pn : Nat → Bool}
theorem lc_read {is : List Nat} {gi : GI} {g : TG} {f : GG} {gt : GT} {ge : GE} (hgf : TgOk c is g f) {σ : St} {H : Hp} {Q : VK} (z : tL c W (lLc is gi f gt ge) σ H Q) : tLc (tI c W gi) g (tT c W0 gt) (tE c W0 ge) is σ H Q := by
  obtain ⟨ρ, F, er, z⟩ := z
  refine ⟨ρ, F, er, (gi ρ).mono (fun r h1 J F1 H1 st wk D hD => ?_) (fun _ q => q) z⟩
  dsimp only at h1
  by_cases hz : r.1.length ≤ sizeLine ∧ frozenAt r.2 is = true
  · rw [if_pos hz] at h1
    have h2 : (lcLoop is f gt ge r.1 r.2).run (fun q => OkL c σ ρ F H Q (q.1, backE q.2 r.2 is)) (fun _ => False) := h1
    have hFD : F1 D = none := st.2.sub.free hD
    have g0 := (upd_growH (o := .lst []) st.2.sub hD).stp (Own (wipe σ is) (wipeE r.2 is))
    have no0 : ¬ Own (wipe σ is) (wipeE r.2 is) D := not_own_new (st.2.wipe is) hD
    have start : LcAt c is f gt ge σ r.2 F1 H1 D r.1 (fun q => OkL c σ ρ F H Q (q.1, backE q.2 r.2 is)) 0 (upd H1 D (.lst [])) :=
      ⟨[], [], r.2, F1, Nat.le_refl _, upd_same, hFD, no0, ⟨g0.ff, g0.hh, g0.th, fun p q => q.elim .inl fun e => .inr (by rw [e]; exact hD)⟩, er_upd (st.2.wipe is) hFD no0, .nil, h2⟩
    refine ⟨fun i m H' => m = r.1.length - i ∧ i ≤ r.1.length ∧ LcAt c is f gt ge σ r.2 F1 H1 D r.1 (fun q => OkL c σ ρ F H Q (q.1, backE q.2 r.2 is)) i H', ⟨_, rfl, Nat.zero_le _, start⟩, fun i m H' hW => ?_⟩
    obtain ⟨rfl, hle, h⟩ := hW
    by_cases hi : i < r.1.length
    · obtain ⟨go, turn⟩ := lc_turn wk hz.1 hgf h hi
      exact .inr ⟨go, fun H' => LcAt c is f gt ge σ r.2 F1 H1 D r.1 (fun q => OkL c σ ρ F H Q (q.1, backE q.2 r.2 is)) (i + 1) H', fun H' n => ⟨r.1.length - (i + 1), by omega, rfl, hi, n⟩, turn⟩
    · have e : i = r.1.length := by omega
      subst e
      obtain ⟨acc, accP, ρ', F', hl, hDv, hF, no, st', er', rep, run⟩ := h.ex
      rw [List.drop_length] at run
      have q : OkL c σ ρ F H Q (accP ++ [], backE ρ' r.2 is) := run
      rw [List.append_nil] at q
      obtain ⟨er2, ow2⟩ := er_back' st.2 st'.ff er' hz.2
      rw [backE_wipe] at er2 ow2
      refine .inl ⟨wk.stop H' (st'.ff.trans er'.sub), q D acc F' H' ⟨st.1.trans ((st'.more fun p z => own_wipe z).less fun p z => .inl (ow2 p z)), er2⟩ ?_ hF hDv (fun z => no (ow2 D z)) rep⟩
      cases e : H D with
      | none => rfl
      | some o =>
        obtain ⟨o', e'⟩ := st.1.th D o e
        rw [hD] at e'
        cases e'
  · rw [if_neg hz] at h1
    exact h1.elim
variable {elt tg iter : Expr} {ifs : List Expr} {scope : Scope} {own : List (Str × Nat)} {is : List Nat} {pos spos py : Pos} {gi : GI} {g : TG} {f : GG} {gt : GT} {ge : GE} {i : Nat} {y : Str}
theorem tL_any {gl : GL} {σ : St} {H : Hp} {Q : VK} (z : tE c W (eLst gl) σ H Q) : tL c W gl σ H Q := by
  obtain ⟨ρ, F, er, z⟩ := z
  exact ⟨ρ, F, er, (gl ρ).mono (fun r (q : OkE c σ ρ F H Q (.lst none r.1, r.2)) p vs F' H' st hn hF hH no rep => by
    have f := freeze_grow st.2.sub hF hH
    refine q (.ref p) (upd F' p (.lst vs)) H' ⟨⟨st.1.ff.trans f.1, fun b o h n => ?_, st.1.th, st.1.ow⟩, freeze_er st.2 hF hH no⟩ (.lst upd_same (rep.mono f.1) (fun _ z => nomatch z))
    obtain ⟨h1, h2⟩ := st.1.hh b o h n
    exact ⟨h1, fun z => by rw [upd_ne (ne_of_none h hn)]; exact h2 z⟩) (fun _ q => q) z⟩
theorem vs_setLc (hc : X.calm = true) (hN : X.N.Nodup) (hy : X.N[i]? = some y) (hyl : X.env.scope.names.lookup y = some .local) (hp : pn i = false)
    (hsw : swapsWith (.ListComp elt [⟨tg, iter, ifs, 0⟩] scope pos) (some (.Name y py)) spos.line X.env = pure true) (hi : PI X tg iter (tI c W gi)) (ok : BlkOk X.N X.env.scope scope own)
    (hg : ∀ (s : Shared) (H : Hp) (C : Addr) (cl : List (Str × Addr)) (fp : List Addr), PG (X.blk s H scope (compEnvC scope cl C X.env) fp) tg g) (hgf : TgOk c is g f)
    (ht : ∀ (s : Shared) (H : Hp) (C : Addr) (cl : List (Str × Addr)) (fp : List Addr), PTs (X.blk s H scope (compEnvC scope cl C X.env) fp) ifs (tT c W0 gt))
    (he : ∀ (s : Shared) (H : Hp) (C : Addr) (cl : List (Str × Addr)) (fp : List Addr), PE (X.blk s H scope (compEnvC scope cl C X.env) fp) elt (tE c W0 ge)) (his : own.map (·.2) = is := by rfl) (hs : ∀ x, foldedSetIterable iter X.env x = pure x := by intro _; rfl) :
    PS X (.Assign [.Name y py] (.ListComp elt [⟨tg, iter, ifs, 0⟩] scope pos) spos) (tS c pn W (sSet i (eLst (lLc is gi f gt ge)))) := by
  subst his
  exact imp_PS (ps_setLc hc hN hy hyl hsw hi ok hg ht he hs) fun D σ H ⟨ρ, F, er, z⟩ => lc_read hgf (tL_any (tE_bindS er z fun v ρ1 w F1 H1 st rep h1 => h1 _ F1 H1
    ⟨(Stp.refl F1 H1 _).less fun p q => own_set q, st.2.set rep, (fun j hj => List.getElem?_set_ne (fun q => by subst q; rw [hp] at hj; cases hj)), List.length_set⟩))
theorem vs_ownLc (hc : X.calm = true) (hN : X.N.Nodup) (hy : X.N[i]? = some y) (hyl : X.env.scope.names.lookup y = some .local) (hp : pn i = false)
    (hsw : swapsWith (.ListComp elt [⟨tg, iter, ifs, 0⟩] scope pos) (some (.Name y py)) spos.line X.env = pure true) (hi : PI X tg iter (tI c W gi)) (ok : BlkOk X.N X.env.scope scope own)
    (hg : ∀ (s : Shared) (H : Hp) (C : Addr) (cl : List (Str × Addr)) (fp : List Addr), PG (X.blk s H scope (compEnvC scope cl C X.env) fp) tg g) (hgf : TgOk c is g f)
    (ht : ∀ (s : Shared) (H : Hp) (C : Addr) (cl : List (Str × Addr)) (fp : List Addr), PTs (X.blk s H scope (compEnvC scope cl C X.env) fp) ifs (tT c W0 gt))
    (he : ∀ (s : Shared) (H : Hp) (C : Addr) (cl : List (Str × Addr)) (fp : List Addr), PE (X.blk s H scope (compEnvC scope cl C X.env) fp) elt (tE c W0 ge)) (his : own.map (·.2) = is := by rfl) (hs : ∀ x, foldedSetIterable iter X.env x = pure x := by intro _; rfl) :
    PS X (.Assign [.Name y py] (.ListComp elt [⟨tg, iter, ifs, 0⟩] scope pos) spos) (tS c pn W (sOwn i (lLc is gi f gt ge))) := by
  subst his
  exact imp_PS (ps_setLc hc hN hy hyl hsw hi ok hg ht he hs) fun D σ H ⟨ρ, F, er, z⟩ => lc_read hgf ⟨ρ, F, er, Wp.mono (lLc (own.map Prod.snd) gi f gt ge ρ) (K := fun r => (Wp.ret (.nx (r.2.set i (.ow r.1))) : Wp XE' Out).run (OkS c pn σ ρ F H D) (ErS c pn W σ ρ F H)) (E := ErS c pn W σ ρ F H) (fun r h1 p vs F1 H1 st hn hF hH no rep => by
    obtain ⟨er2, ow2⟩ := er_own (i := i) st.2 hF hH no rep
    refine h1 _ F1 H1 ⟨⟨st.1.ff, st.1.hh, st.1.th, fun q z => ?_⟩, er2, (fun j hj => List.getElem?_set_ne (fun q => by subst q; rw [hp] at hj; cases hj)), List.length_set⟩
    rcases ow2 q z with z | z
    · exact st.1.ow q z
    · subst z; exact .inr hn) (fun _ q => q.e) z⟩
end
end VL

set_option Elab.async false
set_option linter.all false
set_option maxRecDepth 100000
set_option maxHeartbeats 1000000
/-! VL, part 12: marks; what changes a tagged node. -/
namespace VL
open PySem PySem.Spec PyProof.Rows L2

/-! ### tags taken off, another mark -/
mutual
def PV.er : PV → PV
  | .tup xs => .tup (erL xs)
  | .lst _ xs => .lst none (erL xs)
  | .dic _ kvs => .dic none (erD kvs)
  | .ins k fs => .ins k (erF fs)
  | .non => .non
  | .bl b => .bl b
  | .int i => .int i
  | .str x => .str x
  | .scr ns => .scr ns
  | .any => .any
def erL : List PV → List PV
  | [] => []
  | x :: xs => x.er :: erL xs
def erD : List (Key × PV) → List (Key × PV)
  | [] => []
  | (k, x) :: xs => (k, x.er) :: erD xs
def erF : List (Str × PV) → List (Str × PV)
  | [] => []
  | (k, x) :: xs => (k, x.er) :: erF xs
end
def Cn.at (c : Cn) (B : Addr → Prop) : Cn := { c with B := B }
mutual
theorem Rep.er {c : Cn} {F : Hp} {B : Addr → Prop} : ∀ {v : V} {x : PV}, Rep c F v x → Rep (c.at B) F v x.er
  | _, _, .non => by simp only [PV.er]; exact .non
  | _, _, .bl b => by simp only [PV.er]; exact .bl b
  | _, _, .int i => by simp only [PV.er]; exact .int i
  | _, _, .str x => by simp only [PV.er]; exact .str x
  | _, _, .tup h r => by simp only [PV.er]; exact .tup h (Reps.er' r)
  | _, _, .lst h r t => by simp only [PV.er]; exact .lst h (Reps.er' r) (fun _ z => nomatch z)
  | _, _, .dic h r t => by simp only [PV.er]; exact .dic h (RepD.er r) (fun _ z => nomatch z)
  | _, _, .ins h r => by simp only [PV.er]; exact .ins h (RepF.er r)
  | _, _, .scr h => by simp only [PV.er]; exact .scr h
  | _, _, .any v => by simp only [PV.er]; exact .any v
theorem Reps.er' {c : Cn} {F : Hp} {B : Addr → Prop} : ∀ {vs : List V} {xs : List PV}, Reps c F vs xs → Reps (c.at B) F vs (erL xs)
  | _, _, .nil => by simp only [erL]; exact .nil
  | _, _, .cons h r => by simp only [erL]; exact .cons (Rep.er h) (Reps.er' r)
theorem RepD.er {c : Cn} {F : Hp} {B : Addr → Prop} : ∀ {vs : List (Key × V)} {xs : List (Key × PV)}, RepD c F vs xs → RepD (c.at B) F vs (erD xs)
  | _, _, .nil => by simp only [erD]; exact .nil
  | _, _, .cons h r => by simp only [erD]; exact .cons (Rep.er h) (RepD.er r)
theorem RepF.er {c : Cn} {F : Hp} {B : Addr → Prop} : ∀ {vs : List (Str × V)} {xs : List (Str × PV)}, RepF c F vs xs → RepF (c.at B) F vs (erF xs)
  | _, _, .nil => by simp only [erF]; exact .nil
  | _, _, .cons h r => by simp only [erF]; exact .cons (Rep.er h) (RepF.er r)
end
def SV.er : SV → SV
  | .fz v => .fz v.er
  | .ow xs => .ow (erL xs)
  | .un => .un
  | .bx n => .bx n
theorem SV.er_own (s : SV) : s.er.own = s.own := by cases s <;> rfl
/-- the owned slots are out of sight -/
def SV.hid : SV → SV
  | .fz v => .fz v
  | _ => .un
/-- only the box is known -/
def SV.bxo : SV → SV
  | .bx n => .bx n
  | _ => .un
section
variable {c : Cn} {B : Addr → Prop} {F H : Hp} {σ : St} {ρ : Env'}
theorem SlotR.er {o : Option V} {s : SV} (h : SlotR c F H o s) : SlotR (c.at B) F H o s.er := by
  cases s with
  | un => trivial
  | fz v => obtain ⟨w, e, r⟩ := h; exact ⟨w, e, r.er⟩
  | ow xs => obtain ⟨p, vs, e, f, h, r⟩ := h; exact ⟨p, vs, e, f, h, r.er'⟩
  | bx n => exact h
theorem ER.map {c c' : Cn} {F F' H H' : Hp} {f : SV → SV} (e : ER c F H σ ρ) (s : Same F' H') (hf : ∀ (i : Nat) o t, σ[i]? = some o → ρ[i]? = some t → SlotR c F H o t → SlotR c' F' H' o (f t)) (ho : ∀ t, (f t).own = true → t.own = true) : ER c' F' H' σ (ρ.map f) := by
  refine ⟨s, by rw [List.length_map]; exact e.len, fun i o t h1 h2 => ?_, fun i j t u p h1 h2 h3 h4 h5 h6 => ?_⟩
  · rw [List.getElem?_map] at h2
    obtain ⟨x, e1, rfl⟩ := Option.map_eq_some_iff.mp h2
    exact hf i o x h1 e1 (e.slot i o x h1 e1)
  · rw [List.getElem?_map] at h3 h4
    obtain ⟨x, e1, rfl⟩ := Option.map_eq_some_iff.mp h3
    obtain ⟨y, e2, rfl⟩ := Option.map_eq_some_iff.mp h4
    exact e.dis i j x y p h1 h2 e1 e2 (ho _ h5) (ho _ h6)
theorem own_map {f : SV → SV} (ho : ∀ t, (f t).own = true → t.own = true) {p : Addr} (h : Own σ (ρ.map f) p) : Own σ ρ p := by
  obtain ⟨i, s, h1, h2, h3⟩ := h
  rw [List.getElem?_map] at h2
  obtain ⟨x, e1, rfl⟩ := Option.map_eq_some_iff.mp h2
  exact ⟨i, x, h1, e1, ho _ h3⟩
theorem ER.er (e : ER c F H σ ρ) : ER (c.at B) F H σ (ρ.map SV.er) := e.map e.sub (fun _ _ _ _ _ h => h.er) fun t h => by rw [SV.er_own] at h; exact h
theorem own_er {p : Addr} (h : Own σ (ρ.map SV.er) p) : Own σ ρ p := own_map (fun t h => by rw [SV.er_own] at h; exact h) h
theorem bxo_own {t : SV} (h : t.bxo.own = true) : t.own = true := by cases t <;> first | rfl | cases h
theorem hid_own {t : SV} : t.hid.own = false := by cases t <;> rfl
end

/-! ### tests that may change a tagged node -/
/-- the value, is a tagged node changed, the slots -/
abbrev GH := Env' → Wp XE' (Bool × Bool × Env')
section
variable (c : Cn)
structure ThwE (σ : St) (ρ : Env') (H H' : Hp) : Prop where
  hh : ∀ p o, H p = some o → c.B p ∨ Own σ ρ p → H' p = some o
  th : ∀ p o, H p = some o → ∃ o', H' p = some o'
def OkH (σ : St) (ρ : Env') (F H : Hp) (Q : Bool → Hp → Prop) : Bool × Bool × Env' → Prop := fun r => ∀ F1 H1, StpE c σ ρ F H r.2.2 F1 H1 → (r.2.1 = false → Q r.1 H1) ∧ (r.2.1 = true → ∀ H', ThwE c σ r.2.2 H1 H' → Q r.1 H')
def tH (W : WX) (g : GH) : TT := fun σ H Q => ∃ ρ F, ER c F H σ ρ ∧ (g ρ).run (OkH c σ ρ F H Q) (ErE c W σ ρ F H)
def tHE (W : WX) (g : GH) : TE := fun σ H Q => ∃ ρ F, ER c F H σ ρ ∧ (g ρ).run (OkH c σ ρ F H fun b H' => Q (.bl b) H') (ErE c W σ ρ F H)
end
def hT (g : GT) : GH := fun ρ => (g ρ).bind fun a => .ret (a.1, false, a.2)
def hAnd (g : GT) (h : GH) : GH := fun ρ => (g ρ).bind fun a => if a.1 = true then h a.2 else .ret (false, false, a.2)
def hAndE (g : GE) (h : GH) : GH := fun ρ => (g ρ).bind fun a => match a.1 with
  | .bl true => h a.2
  | .bl false => .ret (false, false, a.2)
  | _ => .stuck
def hOr (g : GT) (h : GH) : GH := fun ρ => (g ρ).bind fun a => if a.1 = true then .ret (true, false, a.2) else h a.2
def hNot (g : GH) : GH := fun ρ => (g ρ).bind fun a => .ret (!a.1, a.2.1, a.2.2)
def hIf (t : GT) (g : GT) (h : GH) : GH := fun ρ => (t ρ).bind fun a => if a.1 = true then hT g a.2 else h a.2
section
variable {c : Cn} {X : Cx} {W : WX} {pn : Nat → Bool} {e a b : Expr} {rest : List Expr} {pos : Pos} {g : GS} {gt gu : GT} {gh : GH} {σ : St} {ρ ρ1 : Env'} {F H F1 H1 : Hp}
theorem OkH.step {Q : Bool → Hp → Prop} {r : Bool × Bool × Env'} (s : StpE c σ ρ F H ρ1 F1 H1) (h : OkH c σ ρ F H Q r) : OkH c σ ρ1 F1 H1 Q r := fun F' H' q => h F' H' (s.trans q)
theorem vt_h (h : PT X a (tT c W gt)) : PT X a (tH c W (hT gt)) := imp_PT h fun σ H Q ⟨ρ, F, er, z⟩ => tT_bind er z fun v ρ1 F1 H1 st h1 => (h1 F1 H1 st).1 rfl
theorem vh_and1 (ha : PT X a (tH c W gh)) : PW X (.BoolOp .And [a] pos) (tH c W gh) := pw_and1 ha
theorem vh_or1 (ha : PT X a (tH c W gh)) : PW X (.BoolOp .Or [a] pos) (tH c W gh) := pw_or1 ha
theorem vh_and (ha : PT X a (tT c W gt)) (hb : PW X (.BoolOp .And (b :: rest) pos) (tH c W gh)) : PW X (.BoolOp .And (a :: b :: rest) pos) (tH c W (hAnd gt gh)) :=
  imp_PW (pw_and ha hb) fun σ H Q ⟨ρ, F, er, z⟩ => tT_bind er z fun v ρ1 F1 H1 st h1 => by
    cases v with
    | true => exact ⟨ρ1, F1, st.2, (gh ρ1).mono (fun r q => OkH.step st q) (fun _ q => q) h1⟩
    | false => exact (h1 F1 H1 st).1 rfl
theorem vh_or (ha : PT X a (tT c W gt)) (hb : PW X (.BoolOp .Or (b :: rest) pos) (tH c W gh)) : PW X (.BoolOp .Or (a :: b :: rest) pos) (tH c W (hOr gt gh)) :=
  imp_PW (pw_or ha hb) fun σ H Q ⟨ρ, F, er, z⟩ => tT_bind er z fun v ρ1 F1 H1 st h1 => by
    cases v with
    | false => exact ⟨ρ1, F1, st.2, (gh ρ1).mono (fun r q => OkH.step st q) (fun _ q => q) h1⟩
    | true => exact (h1 F1 H1 st).1 rfl
theorem vh_pw (h : PW X a (tH c W gh)) : PT X a (tH c W gh) := h.pt
theorem vh_not (h : PT X a (tH c W gh)) : PT X (.UnaryOp .Not a pos) (tH c W (hNot gh)) := imp_PT (pt_not h) fun σ H Q ⟨ρ, F, er, z⟩ =>
  ⟨ρ, F, er, (gh ρ).mono (fun r q => q) (fun _ q => q) z⟩
/-- a value that is a bool, as a test -/
theorem vh_val (ha : PE X a (tHE c W gh)) (he : ∀ whole, isTrue a X.env whole = (do let v ← whole; standAt a.pos; holding [v] (truthy v)) := by intro _; rfl) : PT X a (tH c W gh) :=
  imp_PT (pt_truth ha he) fun σ H Q ⟨ρ, F, er, z⟩ => ⟨ρ, F, er, (gh ρ).mono (fun r q F1 H1 st => ⟨fun e => ⟨_, rfl, (q F1 H1 st).1 e⟩, fun e H' t => ⟨_, rfl, (q F1 H1 st).2 e H' t⟩⟩) (fun _ q => q) z⟩
/-- a and .., as a value -/
theorem ve_hand1 {op} (h : PE X a (tHE c W gh)) : PE X (.BoolOp op [a] pos) (tHE c W gh) := pe_one h
theorem ve_hand {ga : GE} (ha : PE X a (tE c W ga)) (hb : PE X (.BoolOp .And (b :: rest) pos) (tHE c W gh)) : PE X (.BoolOp .And (a :: b :: rest) pos) (tHE c W (hAndE ga gh)) :=
  imp_PE (pe_and ha hb) fun σ H Q ⟨ρ, F, er, z⟩ => tE_bind er z fun v ρ1 w F1 H1 st rep h1 => by
    cases v with
    | bl k =>
      cases rep
      refine ⟨k, rfl, ?_⟩
      cases k with
      | true =>
        have h2 : (gh ρ1).run (OkH c σ ρ F H fun b H' => Q (.bl b) H') (ErE c W σ ρ1 F1 H1) := h1
        exact ⟨ρ1, F1, st.2, (gh ρ1).mono (fun r q => OkH.step st q) (fun _ q => q) h2⟩
      | false => exact (h1 F1 H1 st).1 rfl
    | _ => exact h1.elim
theorem ve_hE {ga : GE} (ha : PE X a (tE c W ga)) : PE X a (tHE c W (hT (gBl ga))) := imp_PE ha fun σ H Q ⟨ρ, F, er, z⟩ => tE_bind er z fun v ρ1 w F1 H1 st rep h1 => by
  cases v with
  | bl k => cases rep; exact (h1 F1 H1 st).1 rfl
  | _ => exact h1.elim
theorem ve_hif {t : Expr} {ga : GE} (ht : PT X t (tT c W gt)) (ha : PE X a (tE c W ga)) (hb : PE X b (tHE c W gh)) : PE X (.IfExp t a b pos) (tHE c W (hIf gt (gBl ga) gh)) :=
  imp_PE (pe_ifExp ht (ve_hE ha) hb) fun σ H Q ⟨ρ, F, er, z⟩ => tT_bind er z fun v ρ1 F1 H1 st h1 => by
    cases v with
    | true => exact ⟨ρ1, F1, st.2, (hT (gBl ga) ρ1).mono (fun r q => OkH.step st q) (fun _ q => q) h1⟩
    | false => exact ⟨ρ1, F1, st.2, (gh ρ1).mono (fun r q => OkH.step st q) (fun _ q => q) h1⟩

/-! ### .. in statements -/
def sIfH (t : GH) (g : GS) : GS := fun ρ => (t ρ).bind fun b => if b.2.1 = true then (if b.1 = true then .stuck else .ret (.th none (b.2.2.map SV.bxo))) else if b.1 = true then g b.2.2 else .ret (.nx b.2.2)
def sRetH (t : GH) : GS := fun ρ => (t ρ).bind fun b => .ret (if b.2.1 = true then .th (some b.1) (b.2.2.map SV.bxo) else .rt (.bl b.1) b.2.2)
theorem thw_of {H' : Hp} (er : ER c F H σ ρ) (t : ThwE c σ ρ H H') : Thw c pn σ ρ H σ (ρ.map SV.bxo) H' where
  hh := fun p o h n b => t.hh p o h (.inl b)
  th := t.th
  ow := fun p h => .inl (own_map (fun _ => bxo_own) h)
  er := er.map (fun _ _ z => nomatch z) (fun i o s h1 h2 h => by
    cases s with
    | bx n =>
      obtain ⟨p, vs, e, f, hp, r⟩ := h
      subst e
      exact ⟨p, vs, rfl, rfl, t.hh p _ hp (.inr ⟨i, _, h1, h2, rfl⟩), r⟩
    | _ => trivial) (fun _ => bxo_own)
  pn := fun _ _ => rfl
  len := rfl
theorem tH_bindS {k : Bool × Bool × Env' → Wp XE' Out} {D : Ends} {R : Bool → Hp → Prop} (er : ER c F H σ ρ) (h : ((gh ρ).bind k).run (OkS c pn σ ρ F H D) (ErS c pn W σ ρ F H))
    (hk : ∀ r F1 H1, StpE c σ ρ F H r.2.2 F1 H1 → (k r).run (OkS c pn σ r.2.2 F1 H1 D) (ErS c pn W σ r.2.2 F1 H1) → (r.2.1 = false → R r.1 H1) ∧ (r.2.1 = true → ∀ H', ThwE c σ r.2.2 H1 H' → R r.1 H')) : tH c W gh σ H R :=
  ⟨ρ, F, er, (gh ρ).mono (fun r h1 F1 H1 st => hk r F1 H1 st (run_stepS st.s h1)) (fun _ z => z.e) h⟩
theorem vs_ifH {p : List Stmt} (ht : PT X a (tH c W gh)) (h1 : PSs X p (tS c pn W g)) : PS X (.If a p [] pos) (tS c pn W (sIfH gh g)) :=
  imp_PS (ps_if ht h1 pss_nil) fun D σ H ⟨ρ, F, er, z⟩ => tH_bindS er z fun r F1 H1 st q => by
    obtain ⟨b, t, ρ1⟩ := r
    cases t with
    | true => cases b with
      | true => exact q.elim
      | false => exact ⟨(fun z => nomatch z), fun _ H' t => ((show OkS c pn σ ρ1 F1 H1 D (.th none (ρ1.map SV.bxo)) from q) σ H' (thw_of st.2 t)).1 rfl⟩
    | false => cases b with
      | true => exact ⟨fun _ => ⟨ρ1, F1, st.2, q⟩, (fun z => nomatch z)⟩
      | false => exact ⟨fun _ => (show OkS c pn σ ρ1 F1 H1 D (.nx ρ1) from q) σ F1 H1 (StpS.refl st.2), fun z => nomatch z⟩
theorem vs_retH (he : PE X a (tHE c W gh)) : PS X (.Return (some a) pos) (tS c pn W (sRetH gh)) :=
  imp_PS (ps_ret he) fun D σ H ⟨ρ, F, er, z⟩ => (tH_bindS er z fun r F1 H1 st q => by
    obtain ⟨b, t, ρ1⟩ := r
    cases t with
    | true => exact ⟨(fun z => nomatch z), fun _ H' t => ((show OkS c pn σ ρ1 F1 H1 D (.th (some b) (ρ1.map SV.bxo)) from q) σ H' (thw_of st.2 t)).2 b rfl⟩
    | false => exact ⟨fun _ => (show OkS c pn σ ρ1 F1 H1 D (.rt (.bl b) ρ1) from q) (.bl b) σ F1 H1 (StpS.refl st.2) (.bl b), fun z => nomatch z⟩)
end
/-! ### defs that end so -/
def noE {ε ε' α : Type} (m : Wp ε α) : Wp ε' α := ⟨fun K _ => m.run K fun _ => False, fun h _ x => m.mono h (fun _ z => z) x⟩
@[simp] theorem noE_ret {ε ε' α : Type} (a : α) : (noE (.ret a : Wp ε α) : Wp ε' α) = .ret a := (rfl)
@[simp] theorem noE_bind {ε ε' α β : Type} (m : Wp ε α) (f : α → Wp ε β) : (noE (m.bind f) : Wp ε' β) = (noE m).bind fun a => noE (f a) := (rfl)
@[simp] theorem noE_stuck {ε ε' α : Type} : (noE (.stuck : Wp ε α) : Wp ε' α) = .stuck := (rfl)
theorem er_own' {s : SV} : s.er.own = s.own := SV.er_own s
def fnT (n : Nat) (pn : Nat → Bool) (g : GS) : GF := fun ss => if pinned pn ss = true then (noE (g (ss.map SV.er ++ List.replicate (n - ss.length) .un))).bind fun o => match o with
  | .nx ρ => .ret (.non, (outs ss ρ).map SV.er)
  | .rt v ρ => .ret (v.er, (outs ss ρ).map SV.er)
  | .th (some b) ρ => .ret (.bl b, (outs ss (ρ.map SV.bxo)).map SV.er)
  | _ => .stuck
  else .stuck
section
variable {c : Cn} {pn : Nat → Bool} {F H F' H' : Hp}
theorem at_at {B B' : Addr → Prop} : (c.at B).at B' = c.at B' := rfl
theorem at_self : c.at c.B = c := rfl
theorem outs_er : ∀ (ss : List SV) (ρ : Env'), outs (ss.map SV.er) ρ = outs ss ρ
  | [], _ => rfl
  | s :: ss, ρ => by simp only [List.map_cons, outs, SV.er_own, outs_er ss]
theorem pinned_er {ss : List SV} (h : pinned pn ss = true) : pinned pn (ss.map SV.er) = true := by
  unfold pinned at h ⊢
  rw [List.length_map]
  refine List.all_eq_true.mpr fun i hi => ?_
  have q := List.all_eq_true.mp h i hi
  rw [List.getElem?_map]
  cases e : ss[i]? with
  | none => rfl
  | some s => rw [e] at q; simpa [SV.er_own] using q
theorem StpE.at {B B' : Addr → Prop} {σ : St} {ρ ρ' : Env'} (s : StpE (c.at B) σ (ρ.map SV.er) F H ρ' F' H') : StpE (c.at B') σ ρ F H (ρ'.map SV.er) F' H' :=
  ⟨⟨s.1.ff, fun p o h n => s.1.hh p o h fun z => n (own_er z), s.1.th, fun p h => (s.1.ow p (own_er h)).imp own_er id⟩, by have q := s.2.er (B := B'); exact q⟩
theorem fnT_ok {P : Program} {w : World} {K : PySem.W.Frag} {mg : Str → Option Value} {base : Heap} {x qual : Str} {st : Stmt} {f : Addr} {fd : FuncData} {N ps : List Str} {k n : Nat} {g : GS} (hk : c.K = K) (Fn : Fun K x qual st f fd) (S : FnScope N ps (defScope st)) (hn : ps.length = n) (hl : ps.length ≤ N.length)
    (hbody : ∀ (B : Addr → Prop) (cdv : Value) (A : Around) (outer : List Env) (s : Shared) (H : Hp) (E : XK), Room k (A.deeper (envOfC qual (defScope st) s.heap.objs.size f cdv)) →
      PSs (cxOf (L2.CX P w) P w K mg base N qual (defScope st) f cdv A outer s H E) (defBody st) (tS (c.at B) pn (fun cls d _ H' => E cls d H') g)) : FnOk P w K mg base (L2.CX P w) (k + 1) f fd ps (SpV c n (fnT N.length pn g)) := by
  refine Fn.okX S (fun vs H Q E h => h.1.trans hn.symm) (fun cdv A outer s H vs Q E hr h => ⟨_, hbody (fun a => H a ≠ none) cdv A outer s H E hr, ?_⟩)
  obtain ⟨hv, F, ss, er, z⟩ := h
  have hvl : vs.length ≤ N.length := by omega
  unfold fnT at z
  by_cases hp : pinned pn ss = true
  · rw [if_pos hp] at z
    have er' : ER (c.at fun a => H a ≠ none) F H (vs.map some) (ss.map SV.er) := er.er
    have hp' := pinned_er hp
    obtain ⟨er0, ow0⟩ := er_enter er' hvl
    rw [List.length_map] at er0 ow0
    have leave : ∀ {σ' ρ' F' H'}, StpS (c.at fun a => H a ≠ none) pn (L2.start N vs) (ss.map SV.er ++ List.replicate (N.length - ss.length) .un) F H σ' ρ' F' H' → StpE c (vs.map some) ss F H ((outs ss ρ').map SV.er) F' H' := fun {σ' ρ' F' H'} s => by
      have q := er_leave er' hvl hp' (by rw [List.length_map]; exact s)
      rw [outs_er] at q
      exact q.at (B' := c.B)
    refine ⟨_, F, er0, (g _).mono (fun o q => ?_) (fun e q => q.elim) z⟩
    cases o with
    | nx ρ' => exact fun σ' F' H' s' => q .non F' H' (leave s') .non
    | rt v ρ' => exact fun w σ' F' H' s' rp => q w F' H' (leave s') (rp.er (B := c.B))
    | bk ρ' => exact q.elim
    | ct ρ' => exact q.elim
    | th o ρ' => cases o with
      | none => exact q.elim
      | some b =>
        refine fun σ' H' t => ⟨(fun z => nomatch z), fun b' e => ?_⟩
        cases e
        have nO : ∀ p o, F p = some o → ¬ Own (vs.map some) ss p := fun p o h z => by
          rw [(Own.tracked er z).1] at h
          cases h
        have nO' : ∀ p, ¬ Own (vs.map some) ss p → ¬ Own (L2.start N vs) (ss.map SV.er ++ List.replicate (N.length - ss.length) .un) p := fun p n z => n (own_er ((ow0 p).mp z))
        have stp : StpS (c.at fun a => H a ≠ none) pn (L2.start N vs) (ss.map SV.er ++ List.replicate (N.length - ss.length) .un) F H σ' (ρ'.map SV.bxo) F H' := by
          have hb : ∀ p o, H p = some o → ¬ Own (L2.start N vs) (ss.map SV.er ++ List.replicate (N.length - ss.length) .un) p → H' p = some o := fun p o h n => t.hh p o h n (by intro z; rw [z] at h; cases h)
          have sub : Same F H' := fun p o h => hb p o (er.sub p o h) (nO' p (nO p o h))
          refine ⟨⟨Same.refl F, fun p o h n => ⟨hb p o h n, fun z => z⟩, t.th, fun p h => t.ow p (own_map (fun _ => bxo_own) h)⟩, ⟨sub, by rw [List.length_map]; exact t.er.len, fun i o s h1 h2 => ?_, fun i j u v p h1 h2 h3 h4 h5 h6 => ?_⟩, t.pn, t.len⟩
          · rw [List.getElem?_map] at h2
            obtain ⟨y, e1, rfl⟩ := Option.map_eq_some_iff.mp h2
            cases y with
            | bx n =>
              obtain ⟨p, us, e, _, hq, r⟩ := t.er.slot i o _ h1 e1
              subst e
              refine ⟨p, us, rfl, ?_, hq, r⟩
              rcases t.ow p ⟨i, _, h1, e1, rfl⟩ with z | z
              · exact (Own.tracked er (own_er ((ow0 p).mp z))).1
              · exact er.sub.free z
            | _ => trivial
          · rw [List.getElem?_map] at h3 h4
            obtain ⟨y, e1, rfl⟩ := Option.map_eq_some_iff.mp h3
            obtain ⟨y', e2, rfl⟩ := Option.map_eq_some_iff.mp h4
            exact t.er.dis i j y y' p h1 h2 e1 e2 (bxo_own h5) (bxo_own h6)
        exact q (.bl b) F H' (leave stp) (.bl b)
  · rw [if_neg hp] at z
    exact z.elim
end
end VL

set_option Elab.async false
set_option linter.all false
set_option maxRecDepth 100000
set_option maxHeartbeats 1000000
/-! VL, part 13: a list or dict handed over and changed; recursion; new lists of defs; the box. -/
namespace VL
open PySem PySem.Spec PyProof.Rows L2

/-! ### a def of which nothing is asked -/
section
variable {c : Cn} {P : Program} {w : World} {K : PySem.W.Frag} {mg : Str → Option Value} {base : Heap} {x qual : Str} {st : Stmt} {f : Addr} {fd : FuncData} {N ps : List Str} {k n : Nat}
def fNo : GF := fun _ => .stuck
theorem pss_no {X : Cx} {p : List Stmt} : PSs X p (fun _ _ _ => False) := ⟨fun _ _ _ _ _ _ h => h.elim⟩
theorem fn_no (Fn : Fun K x qual st f fd) (S : FnScope N ps (defScope st)) (hn : ps.length = n) : FnOk P w K mg base (L2.CX P w) (k + 1) f fd ps (SpV c n fNo) :=
  Fn.okX S (fun vs H Q E h => h.1.trans hn.symm) fun cdv A outer s H vs Q E hr h => by
    obtain ⟨_, F, ss, er, z⟩ := h
    exact z.elim
end

/-! ### d.get(k) -/
def eDGet (g h : GE) : GE := fun ρ => (g ρ).bind fun a => match a.1 with
  | .dic _ kvs => (h a.2).bind fun b => match keyP b.1 with
    | some k => .ret ((valP kvs k).getD .non, b.2)
    | none => .stuck
  | _ => .stuck
section
variable {c : Cn} {X : Cx} {W : WX} {pn : Nat → Bool} {a b o e : Expr} {ga gb : GE} {pos p apos : Pos}
theorem RepD.valP {F : Hp} {k : Key} : ∀ {vs : List (Key × V)} {xs : List (Key × PV)}, RepD c F vs xs → Rep c F ((valV vs k).getD .non) ((valP xs k).getD .non)
  | _, _, .nil => .non
  | _, _, @RepD.cons _ _ k' v x vs xs h r => by
    by_cases e : k' = k
    · rw [valV_pos (show (k', v).1 = k from e)]
      have q : VL.valP ((k', x) :: xs) k = some x := by simp [VL.valP, List.find?_cons, e]
      rw [q]
      exact h
    · rw [valV_neg (show ¬ (k', v).1 = k from e)]
      have q : VL.valP ((k', x) :: xs) k = VL.valP xs k := by simp [VL.valP, List.find?_cons, e]
      rw [q]
      exact RepD.valP r
theorem ve_dget1 (hu : X.A.units + 1 < cLine) (ho : PE X o (tE c W ga)) (he : PE X e (tE c W gb)) (m : M1 X o "get" apos e pos) : PE X (.Call (.Attribute o "get" apos) [e] [] pos) (tE c W (eDGet ga gb)) :=
  imp_PE (pe_dget1 hu ho he m) fun σ H Q ⟨ρ, F, er, z⟩ => tE_bind er z fun v ρ1 w F1 H1 st rep h1 => by
    cases rep with
    | dic h r t =>
      refine ⟨_, rfl, .inl ⟨_, .inl (st.2.sub _ _ h)⟩, tE_bind st.2 h1 fun u ρ2 y F2 H2 st2 rep2 h2 => ?_⟩
      dsimp only at h2
      split at h2
      · rename_i k hk
        have ey := keyP_ok rep2 hk
        subst ey
        exact ⟨_, .k (st2.2.sub _ _ (st2.1.ff _ _ h)), h2 _ F2 H2 (st.trans st2) (RepD.valP (r.mono st2.1.ff))⟩
      · exact h2.elim
    | _ => exact h1.elim

/-! ### what is handed over is changed -/
def tAppX (i : Nat) : TS := fun D σ H => ∃ p vs, σ[i]? = some (some (.ref p)) ∧ H p = some (.lst vs) ∧ vs.length < sizeLine ∧ D.nx σ (upd H p (.lst (vs ++ [.int 7])))
def tPutX (i : Nat) : TS := fun D σ H => ∃ p, σ[i]? = some (some (.ref p)) ∧ H p = some (.dK []) ∧ D.nx σ (upd H p (.dK [(.inr "more", .int 7)]))
theorem vx_app {i j : Nat} {kpos : Pos} (ho : PE X o (tVar i)) (hbase : attributeBase o "append" X.env (eval o X.env) = eval o X.env := by rfl)
    (hfew : ((backTo p (starEach [.Constant (.int 7) j kpos] X.env)).all (fun x => !x.1) && (backToKw p (keywordEach [] X.env)).all (fun x => x.1.isSome) && decide ([Expr.Constant (.int 7) j kpos].length + ([] : List Keyword).length + (if ([] : List Keyword).isEmpty then 0 else 1) < 30)) = true := by rfl)
    (hline : (apos.endLine == p.line) = true := by rfl) (hs : starEach [.Constant (.int 7) j kpos] X.env = (false, eval (.Constant (.int 7) j kpos) X.env) :: starEach [] X.env := by rfl) (hsw : swapsWith (.Call (.Attribute o "append" apos) [.Constant (.int 7) j kpos] [] p) none pos.line X.env = pure false := by rfl) :
    PS X (.Expr (.Call (.Attribute o "append" apos) [.Constant (.int 7) j kpos] [] p) pos) (tAppX i) :=
  imp_PS (ps_expr (pe_bm PySem.F.plainAttrs_list PySem.F.slot_list_append PySem.F.type_list_append mt_append ho (pa_cons pe_int pa_nil hs) hbase hfew hline hs) hsw) fun D σ H ⟨p, vs, h1, h2, h3, h4⟩ =>
    ⟨.ref p, h1, .inl ⟨rfl, _, SqL.of h2⟩, p, vs, .int 7, rfl, rfl, h2, h3, h4⟩
theorem vx_put {i j j2 : Nat} {kpos vpos tpos : Pos} (hu : X.A.units + 1 < cLine) (ho : PE X o (tVar i))
    (ha : ∀ v, assign (.Subscript o (.Constant (.str "more") j kpos) tpos) X.env v = (do
      let ov ← holding [v] (eval o X.env)
      let iv ← holding [v, ov] (eval (.Constant (.str "more") j kpos) X.env)
      standAt tpos
      holding [v, ov, iv] (setItem ov iv v)
      release [v, ov, iv] []) := by intro _; rfl)
    (hs : swapsWithSole [.Subscript o (.Constant (.str "more") j kpos) tpos] (.Constant (.int 7) j2 vpos) pos.line X.env = pure false := by rfl) (hw : swappedStores [.Subscript o (.Constant (.str "more") j kpos) tpos] (.Constant (.int 7) j2 vpos) X.env = pure none := by rfl)
    (h1 : (assignEach [.Subscript o (.Constant (.str "more") j kpos) tpos] X.env).map (·.2) = [assign (.Subscript o (.Constant (.str "more") j kpos) tpos) X.env] := by rfl) :
    PS X (.Assign [.Subscript o (.Constant (.str "more") j kpos) tpos] (.Constant (.int 7) j2 vpos) pos) (tPutX i) :=
  imp_PS (ps_asg pe_int (pg_sub ho pe_str (set_dict hu) ha) hs hw h1) fun D σ H ⟨p, h1, h2, h3⟩ =>
    ⟨.ref p, h1, p, _, rfl, .k (k := .inr "more") h2 (by rw [sizeLine_eq]; decide), h3⟩

/-- told and passed: the same object, changed; else told by the law's own comparison -/
def SpVery (c : Cn) (m : GF) : Sp := fun vs H Q E => vs.length = 2 ∧ ∃ w x told passed F, vs = [w, x] ∧ Same F H ∧ Rep c F w told ∧ Rep c F x passed ∧ match passed with
  | .lst g xs => ∃ p ys, g = some p ∧ told = .lst (some p) ys ∧ xs.length < sizeLine ∧ ∀ H', (∀ q o, q ≠ p → H q = some o → H' q = some o) → (∃ o', H' p = some o') → Q (.bl true) H'
  | .dic g xs => ∃ p ys, g = some p ∧ told = .dic (some p) ys ∧ xs = [] ∧ ∀ H', (∀ q o, q ≠ p → H q = some o → H' q = some o) → (∃ o', H' p = some o') → Q (.bl true) H'
  | _ => (∃ t, tyN passed = some t) ∧ (m [.fz told, .fz passed]).run (fun r => ∀ u F' H', Grow F H F' H' → Rep c F' u r.1 → Q u H') (fun e => ∀ d F' H', Grow F H F' H' → ExD c F' H' d e.1.fs → E (.ref (c.cA e.1.k)) d H')
def veryL (m : GF) : GE := eAnd (eOp1 (pIsi "list") (eVar 0)) (eAnd (eOp2 pEq (eOp1 pLen (eVar 0)) (eOp1 pLen (eVar 1))) (eCall m (aCons (eOp2 pIx (eVar 0) (eOp1 pNeg (eC (.int 1)))) (aCons (eC (.int 7)) aNil))))
def veryD (m : GF) : GE := eAnd (eOp1 (pIsi "dict") (eVar 0)) (eAnd (eOp2 pEq (eOp1 pLen (eVar 0)) (eOp1 pLen (eVar 1))) (eCall m (aCons (eDGet (eVar 0) (eC (.str "more"))) (aCons (eC (.int 7)) aNil))))
def veryS (m : GF) : GE := eCall m (aCons (eVar 0) (aCons (eVar 1) aNil))
structure VeryD (c : Cn) (m : GF) (X : Cx) (W : WX) (body : List Stmt) : Prop where
  ex : ∃ t1 a1 r1 p1 t2 a2 r2 p2 r3, body = [.If t1 [a1, r1] [] p1, .If t2 [a2, r2] [] p2, r3] ∧ PT X t1 (tT c W (gVal (eOp1 (pIsi "list") (eVar 1)))) ∧ PS X a1 (tAppX 1) ∧ PS X r1 (tS c noPin W (sRet (veryL m))) ∧
    PT X t2 (tT c W (gVal (eOp1 (pIsi "dict") (eVar 1)))) ∧ PS X a2 (tPutX 1) ∧ PS X r2 (tS c noPin W (sRet (veryD m))) ∧ PS X r3 (tS c noPin W (sRet (veryS m)))
theorem reps_any : ∀ (vs : List V) {F : Hp}, Reps c F vs (vs.map fun _ => PV.any)
  | [], _ => .nil
  | v :: vs, F => .cons (.any v) (reps_any vs)
/-- the only thing known is what stands at p -/
def only (p : Addr) (o : HO) : Hp := upd (fun _ => none) p o
theorem only_same {p : Addr} {o : HO} {H : Hp} (h : H p = some o) : Same (only p o) H := fun b u e => by
  by_cases hb : b = p
  · subst hb; unfold only at e; rw [upd_same] at e; rw [h]; exact e
  · unfold only at e; rw [upd_ne hb] at e; cases e
theorem er_two {F H : Hp} {w x : V} {a b : PV} (s : Same F H) (ra : Rep c F w a) (rb : Rep c F x b) : ER c F H [some w, some x] [.fz a, .fz b] := Reps.er s (Reps.cons ra (.cons rb .nil))
theorem own_two {w x : V} {a b : PV} {p : Addr} : ¬ Own [some w, some x] [.fz a, .fz b] p := fzs_own (xs := [a, b])
theorem outs_two {a b : PV} {ρ : Env'} : outs [.fz a, .fz b] ρ = [.un, .un] := rfl
def VL0 (n : Nat) : List SV := [.fz (.lst none (List.replicate n .any ++ [.int 7])), .fz (.lst none (List.replicate n .any ++ [.int 7]))]
def VD0 : List SV := [.fz (.dic none [(.inr "more", .int 7)]), .fz (.dic none [(.inr "more", .int 7)])]
/-- the answers of the comparison at 7 -/
structure Very7 (m : GF) : Prop where
  l : ∀ n K E, n < sizeLine → K (.bl true, VL0 n) → (veryL m (VL0 n)).run K E
  d : ∀ K E, K (.bl true, VD0) → (veryD m VD0).run K E
theorem isT_run {T : String} {b : Bool} {σ : St} {F H : Hp} {told passed : PV} {Q : Bool → Hp → Prop} (er : ER c F H σ [.fz told, .fz passed]) (e : isT T passed = some b) (h : ∀ F' H', StpE c σ [.fz told, .fz passed] F H [.fz told, .fz passed] F' H' → Q b H') :
    tT c W (gVal (eOp1 (pIsi T) (eVar 1))) σ H Q := by
  refine ⟨_, F, er, ?_⟩
  have q : gVal (eOp1 (pIsi T) (eVar 1)) [.fz told, .fz passed] = .ret (b, [.fz told, .fz passed]) := by
    unfold gVal eOp1 pIsi
    simp [eVar, e, truth]
  rw [q]
  exact h
theorem very_after {m : GF} {g : GE} {w x : V} {p : Addr} {ob : HO} {T : PV} {H H' : Hp} {Q : VK} (hT : Rep c (only p ob) (.ref p) T) (hH : H' p = some ob) (grow : ∀ q o, q ≠ p → H q = some o → H' q = some o) (hw : w = .ref p) (hx : x = .ref p)
    (hg : ∀ K E, K (.bl true, [.fz T, .fz T]) → (g [.fz T, .fz T]).run K E) (hQ : ∀ H', (∀ q o, q ≠ p → H q = some o → H' q = some o) → (∃ o', H' p = some o') → Q (.bl true) H') {nx : St → Hp → Prop} {bk ct : St → Hp → Prop} :
    tS c noPin W (sRet g) { nx := nx, rt := Q, bk := bk, ct := ct } [some w, some x] H' := by
  subst hw
  subst hx
  refine ⟨[.fz T, .fz T], only p ob, er_two (only_same hH) hT hT, hg _ _ fun w' σ' F' H2 st rp => ?_⟩
  cases rp
  exact hQ H2 (fun q o n h => (st.1.hh q o (grow q o n h) own_two).1) (by obtain ⟨o', h⟩ := st.1.th p _ hH; exact ⟨o', h⟩)
theorem very_body {m : GF} {body : List Stmt} (M : Very7 m) (B : VeryD c m X W body) (w x : V) : ∃ t, PSs X body t ∧ ∀ (H : Hp) (Q : VK) (E : XK), (W = fun cls d _ H' => E cls d H') → SpVery c m [w, x] H Q E → t { nx := fun _ H' => Q .non H', rt := Q } [some w, some x] H := by
  obtain ⟨t1, a1, r1, p1, t2, a2, r2, p2, r3, rfl, d1, d2, d3, d4, d5, d6, d7⟩ := B.ex
  refine ⟨_, pss_cons (ps_if d1 (pss_cons d2 (vss_one d3)) pss_nil) (pss_cons (ps_if d4 (pss_cons d5 (vss_one d6)) pss_nil) (vss_one d7)), fun H Q E hW h => ?_⟩
  obtain ⟨_, w', x', told, passed, F, e, s, rt, rp, h⟩ := h
  cases e
  have er := er_two s rt rp
  have other : isT "list" passed = some false → isT "dict" passed = some false → (m [.fz told, .fz passed]).run (fun r => ∀ u F' H', Grow F H F' H' → Rep c F' u r.1 → Q u H') (fun e => ∀ d F' H', Grow F H F' H' → ExD c F' H' d e.1.fs → E (.ref (c.cA e.1.k)) d H') →
      tSeq (tIfS (tT c W (gVal (eOp1 (pIsi "list") (eVar 1)))) (tSeq (tAppX 1) (tS c noPin W (sRet (veryL m)))) tNext) (tSeq (tIfS (tT c W (gVal (eOp1 (pIsi "dict") (eVar 1)))) (tSeq (tPutX 1) (tS c noPin W (sRet (veryD m)))) tNext) (tS c noPin W (sRet (veryS m)))) { nx := fun _ H' => Q .non H', rt := Q } [some w, some x] H := fun e1 e2 h => by
    refine isT_run er e1 fun F1 H1 st1 => ?_
    rw [if_neg Bool.false_ne_true]
    refine isT_run st1.2 e2 fun F2 H2 st2 => ?_
    rw [if_neg Bool.false_ne_true]
    have st := st1.trans st2
    have gr : ∀ {σ' F' H'}, StpS c noPin [some w, some x] [.fz told, .fz passed] F2 H2 σ' [.fz told, .fz passed] F' H' → Grow F H F' H' := fun {σ' F' H'} s' =>
      ⟨st.1.ff.trans s'.1.ff, fun p o q => (s'.1.hh p o (st.1.hh p o q own_two).1 own_two).1, s'.2.1.sub, fun p o q z => (s'.1.hh p o (st.1.hh p o q own_two).1 own_two).2 ((st.1.hh p o q own_two).2 z)⟩
    refine ⟨_, F2, st.2, (m [.fz told, .fz passed]).mono (fun r q w' σ' F' H' s' rp' => q w' F' H' (gr s') rp') (fun e q d σ' F' H' s' ex => ?_) h⟩
    rw [hW]
    exact q d F' H' (gr s') ex
  cases rp with
  | @lst p vs g xs hF r t =>
    obtain ⟨p', ys, rfl, rfl, hz, hQ⟩ := h
    obtain ⟨rfl, hB⟩ := t p' rfl
    have hl : vs.length = xs.length := r.length
    refine isT_run er (by rfl : isT "list" (.lst (some p') xs) = some true) fun F1 H1 st1 => ?_
    rw [if_pos rfl]
    have hp1 : H1 p' = some (.lst vs) := (st1.1.hh p' _ (s _ _ hF) own_two).1
    have hw : w = .ref p' := by
      cases rt with
      | lst h1 r1 t1 => rw [(t1 p' rfl).1]
    refine ⟨p', vs, rfl, hp1, by rw [hl]; exact hz, ?_⟩
    refine very_after (m := m) (H := H) (T := .lst none (List.replicate vs.length .any ++ [.int 7])) (.lst upd_same (Reps.append (by have := reps_any (c := c) vs (F := only p' (.lst (vs ++ [V.int 7]))); rwa [List.map_const'] at this) (.cons (.int 7) .nil)) (fun _ z => nomatch z)) upd_same (fun q o n h => ?_) hw rfl (fun K E hK => M.l vs.length K E (by omega) hK) hQ
    rw [upd_ne n]
    exact (st1.1.hh q o h own_two).1
  | @dic p vs g xs hF r t =>
    obtain ⟨p', ys, rfl, rfl, rfl, hQ⟩ := h
    obtain ⟨rfl, hB⟩ := t p' rfl
    cases r
    refine isT_run er (by rfl : isT "list" (.dic (some p') []) = some false) fun F1 H1 st1 => ?_
    rw [if_neg Bool.false_ne_true]
    refine isT_run st1.2 (by rfl : isT "dict" (.dic (some p') []) = some true) fun F2 H2 st2 => ?_
    rw [if_pos rfl]
    have st := st1.trans st2
    have hp1 : H2 p' = some (.dK []) := (st.1.hh p' _ (s _ _ hF) own_two).1
    have hw : w = .ref p' := by
      cases rt with
      | dic h1 r1 t1 => rw [(t1 p' rfl).1]
    refine ⟨p', rfl, hp1, ?_⟩
    refine very_after (m := m) (H := H) (T := .dic none [(.inr "more", .int 7)]) (.dic upd_same (.cons (.int 7) .nil) (fun _ z => nomatch z)) upd_same (fun q o n h => ?_) hw rfl M.d hQ
    rw [upd_ne n]
    exact (st.1.hh q o h own_two).1
  | any v => obtain ⟨⟨t, e⟩, _⟩ := h; cases e
  | ins h1 r1 => obtain ⟨⟨t, e⟩, _⟩ := h; cases e
  | scr h1 => obtain ⟨⟨t, e⟩, _⟩ := h; cases e
  | _ => exact other rfl rfl h.2
theorem very_ok {P : Program} {w : World} {K : PySem.W.Frag} {mg : Str → Option Value} {base : Heap} {x qual : Str} {st : Stmt} {f : Addr} {fd : FuncData} {k : Nat} {m : GF} (M : Very7 m) (Fn : Fun K x qual st f fd) (S : FnScope ["told", "passed"] ["told", "passed"] (defScope st))
    (hbody : ∀ (cdv : Value) (A : Around) (outer : List Env) (s : Shared) (H : Hp) (E : XK), Room k (A.deeper (envOfC qual (defScope st) s.heap.objs.size f cdv)) →
      VeryD c m (cxOf (L2.CX P w) P w K mg base ["told", "passed"] qual (defScope st) f cdv A outer s H E) (fun cls d _ H' => E cls d H') (defBody st)) : FnOk P w K mg base (L2.CX P w) (k + 1) f fd ["told", "passed"] (SpVery c m) :=
  Fn.okX S (fun vs H Q E h => h.1) fun cdv A outer s H vs Q E hr h => by
    obtain ⟨hl, w, x, told, passed, F, rfl, h'⟩ := h
    obtain ⟨t, d, q⟩ := very_body M (hbody cdv A outer s H E hr) w x
    exact ⟨t, d, q H Q E rfl ⟨hl, w, x, told, passed, F, rfl, h'⟩⟩
structure FvVery (P : Program) (w : World) (K : PySem.W.Frag) (mg : Str → Option Value) (base : Heap) (c : Cn) (k : Nat) (x : Str) (m : GF) : Prop where
  ex : ∃ (f : Addr) (fd : FuncData) (ps : List Str), mg x = some (.ref f) ∧ FnOk P w K mg base (L2.CX P w) k f fd ps (SpVery c m) ∧ PySem.W.keepIn K (.ref f) = true ∧ Binds K fd ps []
def hVery (m : GF) (ga gb : GE) : GH := fun ρ => (ga ρ).bind fun a => (gb a.2).bind fun b => match b.1 with
  | .lst (some p) xs => match a.1 with
    | .lst (some q) _ => if p = q ∧ xs.length < sizeLine then .ret (true, true, b.2) else .stuck
    | _ => .stuck
  | .dic (some p) [] => match a.1 with
    | .dic (some q) _ => if p = q then .ret (true, true, b.2) else .stuck
    | _ => .stuck
  | .lst none _ => .stuck
  | .dic _ _ => .stuck
  | v => if (tyN v).isSome = true then ((m [.fz a.1, .fz v]).mapE fun e => (e.1, b.2)).bind fun r => match r.1 with
    | .bl k => .ret (k, false, b.2)
    | _ => .stuck
  else .stuck
theorem ve_very {k j : Nat} {m : GF} {x : Str} (F : FvVery X.prog X.w X.K X.mg X.base c k x m) (hr : Room j X.A) (hj : k ≤ j) (hg : Gl X x) (tk : Takes X W) (ha : PE X a (tE c W ga)) (hb : PE X b (tE c W gb))
    (hdb : (x == ("__debug__" : Str)) = false := by decide) (he : starEach [a, b] X.env = (false, eval a X.env) :: starEach [b] X.env := by rfl) (he2 : starEach [b] X.env = (false, eval b X.env) :: starEach [] X.env := by rfl)
    (hpl : (backTo pos (starEach [b] X.env)).any (·.1) = false := by rfl) : PE X (.Call (.Name x p) [a, b] [] pos) (tHE c W (hVery m ga gb)) := by
  obtain ⟨f, fd, ps, hm, G, kp, hbi⟩ := F.ex
  refine imp_PE (pe_callS G (hr.mono hj) hg hm kp hbi (fun σ => passAt tk σ) (pa_cons ha (pa_cons hb pa_nil he2) he) hdb he hpl) fun σ H Q ⟨ρ, F, er, z⟩ => ?_
  refine tE_bind er z fun v ρ1 w F1 H1 st rep h1 => tE_bind st.2 h1 fun u ρ2 y F2 H2 st2 rep2 h2 => ?_
  have st12 := st.trans st2
  have rep' := rep.mono st2.1.ff
  refine ⟨rfl, w, y, v, u, F2, rfl, st2.2.sub, rep', rep2, ?_⟩
  have thaw : ∀ {p : Addr} {o : HO}, F2 p = some o → ¬ c.B p → ∀ H', (∀ q o, q ≠ p → H2 q = some o → H' q = some o) → (∃ o', H' p = some o') → ThwE c σ ρ2 H2 H' := fun {p o} hp hB H' h3 h4 =>
    ⟨fun q ob hq hz => h3 q ob (fun e => by
      subst e
      rcases hz with hz | hz
      · exact hB hz
      · rw [(Own.tracked st2.2 hz).1] at hp
        cases hp) hq, fun q ob hq => by
      by_cases e : q = p
      · subst e; exact h4
      · exact ⟨ob, h3 q ob e hq⟩⟩
  have oth : (tyN u).isSome = true → (((m [.fz v, .fz u]).mapE fun e => (e.1, ρ2)).bind fun r => match r.1 with | .bl k => (.ret (k, false, ρ2) : Wp XE' (Bool × Bool × Env')) | _ => .stuck).run (OkH c σ ρ F H fun b H' => Q (.bl b) H') (ErE c W σ ρ2 F2 H2) → (∃ t, tyN u = some t) ∧
      (m [.fz v, .fz u]).run (fun r => ∀ w F' H', Grow F2 H2 F' H' → Rep c F' w r.1 → Q w H') (fun e => ∀ d F' H', Grow F2 H2 F' H' → ExD c F' H' d e.1.fs → WE W σ (.ref (c.cA e.1.k)) d H') := fun e h => by
    refine ⟨Option.isSome_iff_exists.mp e, (m [.fz v, .fz u]).mono (fun r q w' F' H' gr rp => ?_) (fun e q d F' H' gr ex => q d F' H' (gr.stpE st2.2) ex) h⟩
    obtain ⟨r, ss⟩ := r
    cases r with
    | bl k => cases rp; exact (q F' H' (st12.trans (gr.stpE st2.2))).1 rfl
    | _ => exact q.elim
  dsimp only at h2
  cases rep2 with
  | @lst p vs g xs hF r t =>
    cases g with
    | none => exact h2.elim
    | some p' =>
      dsimp only at h2
      split at h2
      · rename_i q ys
        split at h2
        · rename_i hq
          obtain ⟨rfl, hz⟩ := hq
          obtain ⟨rfl, hB⟩ := t p' rfl
          exact ⟨p', _, rfl, rfl, hz, fun H' h3 h4 => (h2 F2 H2 st12).2 rfl H' (thaw hF hB H' h3 h4)⟩
        · exact h2.elim
      · exact h2.elim
  | @dic p vs g xs hF r t =>
    cases g with
    | none => exact h2.elim
    | some p' => cases xs with
      | cons _ _ => exact h2.elim
      | nil =>
        dsimp only at h2
        split at h2
        · rename_i q ys
          split at h2
          · rename_i hq
            subst hq
            obtain ⟨rfl, hB⟩ := t p' rfl
            exact ⟨p', _, rfl, rfl, rfl, fun H' h3 h4 => (h2 F2 H2 st12).2 rfl H' (thaw hF hB H' h3 h4)⟩
          · exact h2.elim
        · exact h2.elim
  | any y => exact h2.elim
  | ins h1 r1 => exact h2.elim
  | scr h1 => exact h2.elim
  | _ => exact oth rfl h2
end
end VL

set_option Elab.async false
set_option linter.all false
set_option maxRecDepth 100000
set_option maxHeartbeats 1000000
/-! VL, part 14: a new list some of whose items are new lists or dicts of one's own; a loop over it. -/
namespace VL
open PySem PySem.Spec PyProof.Rows L2

inductive RV where
  | pv (v : PV) | ml (xs : List PV) | md
section
variable (c : Cn) (σ : St) (ρ : Env') (F H : Hp)
def RReps : (Addr → Prop) → List V → List RV → Prop
  | _, [], [] => True
  | N, w :: ws, .pv v :: rs => Rep c F w v ∧ RReps N ws rs
  | N, w :: ws, .ml xs :: rs => ∃ q ys, w = .ref q ∧ N q ∧ F q = none ∧ H q = some (.lst ys) ∧ ¬ Own σ ρ q ∧ Reps c F ys xs ∧ RReps (fun a => N a ∧ a ≠ q) ws rs
  | N, w :: ws, .md :: rs => ∃ q, w = .ref q ∧ N q ∧ F q = none ∧ H q = some (.dK []) ∧ ¬ Own σ ρ q ∧ RReps (fun a => N a ∧ a ≠ q) ws rs
  | _, _, _ => False
end
section
variable {c : Cn} {σ σ' : St} {ρ ρ' : Env'} {F H F' H' : Hp}
/-- what keeps them -/
structure Keeps (σ : St) (ρ : Env') (F H : Hp) (σ' : St) (ρ' : Env') (F' H' : Hp) (N : Addr → Prop) : Prop where
  ff : Same F F'
  hh : ∀ p o, N p → H p = some o → F p = none → ¬ Own σ ρ p → H' p = some o ∧ F' p = none ∧ ¬ Own σ' ρ' p
theorem RReps.keep : ∀ {N M : Addr → Prop} {ws : List V} {rs : List RV}, Keeps σ ρ F H σ' ρ' F' H' N → (∀ a o, N a → H a = some o → M a) → RReps c σ ρ F H N ws rs → RReps c σ' ρ' F' H' M ws rs
  | _, _, [], [], _, _, _ => trivial
  | _, _, w :: ws, .pv v :: rs, k, m, ⟨a, b⟩ => ⟨a.mono k.ff, RReps.keep k m b⟩
  | N, M, w :: ws, .ml xs :: rs, k, m, ⟨q, ys, h1, h2, h3, h4, h5, h6, h7⟩ => by
    obtain ⟨a, b, d⟩ := k.hh q _ h2 h4 h3 h5
    exact ⟨q, ys, h1, m q _ h2 h4, b, a, d, h6.mono k.ff, RReps.keep (N := fun a => N a ∧ a ≠ q) ⟨k.ff, fun p o hn => k.hh p o hn.1⟩ (fun a o h e => ⟨m a o h.1 e, h.2⟩) h7⟩
  | N, M, w :: ws, .md :: rs, k, m, ⟨q, h1, h2, h3, h4, h5, h7⟩ => by
    obtain ⟨a, b, d⟩ := k.hh q _ h2 h4 h3 h5
    exact ⟨q, h1, m q _ h2 h4, b, a, d, RReps.keep (N := fun a => N a ∧ a ≠ q) ⟨k.ff, fun p o hn => k.hh p o hn.1⟩ (fun a o h e => ⟨m a o h.1 e, h.2⟩) h7⟩
  | _, _, [], .pv _ :: _, _, _, h => h.elim
  | _, _, [], .ml _ :: _, _, _, h => h.elim
  | _, _, [], .md :: _, _, _, h => h.elim
  | _, _, _ :: _, [], _, _, h => h.elim
theorem Keeps.refl {N : Addr → Prop} : Keeps σ ρ F H σ ρ F H N := ⟨Same.refl F, fun p o _ h f n => ⟨h, f, n⟩⟩
theorem RReps.weak {N M : Addr → Prop} {ws : List V} {rs : List RV} (m : ∀ a, N a → M a) (h : RReps c σ ρ F H N ws rs) : RReps c σ ρ F H M ws rs := h.keep .refl fun a _ z _ => m a z
theorem RReps.length : ∀ {N : Addr → Prop} {ws : List V} {rs : List RV}, RReps c σ ρ F H N ws rs → ws.length = rs.length
  | _, [], [], _ => rfl
  | _, w :: ws, .pv v :: rs, ⟨a, b⟩ => congrArg Nat.succ (RReps.length b)
  | _, w :: ws, .ml xs :: rs, ⟨q, ys, h1, h2, h3, h4, h5, h6, h7⟩ => congrArg Nat.succ (RReps.length h7)
  | _, w :: ws, .md :: rs, ⟨q, h1, h2, h3, h4, h5, h7⟩ => congrArg Nat.succ (RReps.length h7)
  | _, [], .pv _ :: _, h => h.elim
  | _, [], .ml _ :: _, h => h.elim
  | _, [], .md :: _, h => h.elim
  | _, _ :: _, [], h => h.elim
theorem RReps.drop : ∀ (n : Nat) {N : Addr → Prop} {ws : List V} {rs : List RV}, RReps c σ ρ F H N ws rs → RReps c σ ρ F H N (ws.drop n) (rs.drop n)
  | 0, _, _, _, h => h
  | _ + 1, _, [], [], _ => trivial
  | n + 1, _, w :: ws, .pv v :: rs, ⟨a, b⟩ => RReps.drop n b
  | n + 1, _, w :: ws, .ml xs :: rs, ⟨q, ys, h1, h2, h3, h4, h5, h6, h7⟩ => (RReps.drop n h7).weak fun _ z => z.1
  | n + 1, _, w :: ws, .md :: rs, ⟨q, h1, h2, h3, h4, h5, h7⟩ => (RReps.drop n h7).weak fun _ z => z.1
  | _ + 1, _, [], .pv _ :: _, h => h.elim
  | _ + 1, _, [], .ml _ :: _, h => h.elim
  | _ + 1, _, [], .md :: _, h => h.elim
  | _ + 1, _, _ :: _, [], h => h.elim
theorem RReps.take : ∀ (n : Nat) {N : Addr → Prop} {ws : List V} {rs : List RV}, RReps c σ ρ F H N ws rs → RReps c σ ρ F H N (ws.take n) (rs.take n)
  | 0, _, _, _, h => by simp only [List.take_zero]; trivial
  | _ + 1, _, [], [], _ => trivial
  | n + 1, _, w :: ws, .pv v :: rs, ⟨a, b⟩ => ⟨a, RReps.take n b⟩
  | n + 1, _, w :: ws, .ml xs :: rs, ⟨q, ys, h1, h2, h3, h4, h5, h6, h7⟩ => ⟨q, ys, h1, h2, h3, h4, h5, h6, RReps.take n h7⟩
  | n + 1, _, w :: ws, .md :: rs, ⟨q, h1, h2, h3, h4, h5, h7⟩ => ⟨q, h1, h2, h3, h4, h5, RReps.take n h7⟩
  | _ + 1, _, [], .pv _ :: _, h => h.elim
  | _ + 1, _, [], .ml _ :: _, h => h.elim
  | _ + 1, _, [], .md :: _, h => h.elim
  | _ + 1, _, _ :: _, [], h => h.elim
theorem RReps.cut {N : Addr → Prop} {ws : List V} {rs : List RV} (h : RReps c σ ρ F H N ws rs) (lo hi : Option Int) : RReps c σ ρ F H N (cutV ws lo hi) (cutP rs lo hi) := by
  unfold cutV cutP
  rw [h.length]
  exact (h.drop _).take _
theorem RReps.ofReps : ∀ {N : Addr → Prop} {ws vs : List V} {xs : List PV} {rs : List RV}, Reps c F ws xs → RReps c σ ρ F H N vs rs → RReps c σ ρ F H N (ws ++ vs) (xs.map .pv ++ rs)
  | _, _, _, _, _, .nil, h => h
  | _, _, _, _, _, .cons a r, h => ⟨a, RReps.ofReps r h⟩
theorem StpE.keeps {N : Addr → Prop} (s : StpE c σ ρ F H ρ' F' H') : Keeps σ ρ F H σ ρ' F' H' N :=
  ⟨s.1.ff, fun p o _ h f n => ⟨(s.1.hh p o h n).1, (s.1.hh p o h n).2 f, fun z => (s.1.ow p z).elim n fun q => by rw [h] at q; cases q⟩⟩
end

/-! ### displays with such items -/
abbrev GR := Env' → Wp XE' (List RV × Env')
def rNil : GR := fun ρ => .ret ([], ρ)
def rPv (g : GE) (h : GR) : GR := fun ρ => (g ρ).bind fun a => (h a.2).bind fun b => .ret (.pv a.1 :: b.1, b.2)
def rMl (g : GL) (h : GR) : GR := fun ρ => (g ρ).bind fun a => (h a.2).bind fun b => .ret (.ml a.1 :: b.1, b.2)
def rMd (h : GR) : GR := fun ρ => (h ρ).bind fun b => .ret (.md :: b.1, b.2)
def OkRA (c : Cn) (n : Nat) (σ : St) (ρ : Env') (F H : Hp) (Q : List V → Hp → Prop) : List RV × Env' → Prop := fun r => ∀ ws F' H', StpE c σ ρ F H r.2 F' H' → RReps c σ r.2 F' H' (fun a => H a = none) ws r.1 → ws.length = n → Q ws H'
def tRA (c : Cn) (W : WX) (n : Nat) (g : GR) : TA := fun σ H Q => ∃ ρ F, ER c F H σ ρ ∧ (g ρ).run (OkRA c n σ ρ F H Q) (ErE c W σ ρ F H)
/-- a new list of such items -/
def OkR (c : Cn) (σ : St) (ρ : Env') (F H : Hp) (Q : VK) : List RV × Env' → Prop := fun r => ∀ p ws F' H', StpE c σ ρ F H r.2 F' H' → H p = none → F' p = none → H' p = some (.lst ws) → ¬ Own σ r.2 p → RReps c σ r.2 F' H' (fun a => H a = none ∧ a ≠ p) ws r.1 → Q (.ref p) H'
def tR (c : Cn) (W : WX) (g : GR) : TE := fun σ H Q => ∃ ρ F, ER c F H σ ρ ∧ (g ρ).run (OkR c σ ρ F H Q) (ErE c W σ ρ F H)
def rDisp (g : GR) : GR := fun ρ => (g ρ).bind fun a => if a.1.length ≤ sizeLine then .ret a else .stuck
def rAdd (g : GE) (h : GR) : GR := fun ρ => (g ρ).bind fun a => match a.1 with
  | .lst _ xs => (h a.2).bind fun b => if xs.length + b.1.length ≤ sizeLine then .ret (xs.map .pv ++ b.1, b.2) else .stuck
  | _ => .stuck
def rSl (g : GR) (l : GO) : GR := fun ρ => (g ρ).bind fun a => (l a.2).bind fun i => .ret (cutP a.1 i.1 none, i.2)
section
variable {c : Cn} {X : Cx} {W : WX} {pn : Nat → Bool} {a b e : Expr} {es : List Expr} {ga gb : GE} {gl : GL} {gr : GR} {go : GO} {pos p : Pos} {n : Nat} {σ : St} {ρ ρ1 : Env'} {F H F1 H1 : Hp}
theorem tL_bind {α : Type} {g : GL} {k : List PV × Env' → Wp XE' α} {R : VK} {Z : α → Prop} (er : ER c F H σ ρ) (h : ((g ρ).bind k).run Z (ErE c W σ ρ F H))
    (hk : ∀ v ρ1 p vs F1 H1, StpE c σ ρ F H ρ1 F1 H1 → H p = none → F1 p = none → H1 p = some (.lst vs) → ¬ Own σ ρ1 p → Reps c F1 vs v → (k (v, ρ1)).run Z (ErE c W σ ρ1 F1 H1) → R (.ref p) H1) : tL c W g σ H R :=
  ⟨ρ, F, er, (g ρ).mono (fun r h1 p vs F1 H1 st a b d e f => hk r.1 r.2 p vs F1 H1 st a b d e f ((k r).mono (fun _ z => z) (fun _ => ErE.step st) h1)) (fun _ z => z) h⟩
theorem tRA_bind {α : Type} {g : GR} {k : List RV × Env' → Wp XE' α} {R : List V → Hp → Prop} {Z : α → Prop} (er : ER c F H σ ρ) (h : ((g ρ).bind k).run Z (ErE c W σ ρ F H))
    (hk : ∀ rs ρ1 ws F1 H1, StpE c σ ρ F H ρ1 F1 H1 → RReps c σ ρ1 F1 H1 (fun a => H a = none) ws rs → ws.length = n → (k (rs, ρ1)).run Z (ErE c W σ ρ1 F1 H1) → R ws H1) : tRA c W n g σ H R :=
  ⟨ρ, F, er, (g ρ).mono (fun r h1 ws F1 H1 st a b => hk r.1 r.2 ws F1 H1 st a b ((k r).mono (fun _ z => z) (fun _ => ErE.step st) h1)) (fun _ z => z) h⟩
theorem tR_bind {α : Type} {g : GR} {k : List RV × Env' → Wp XE' α} {R : VK} {Z : α → Prop} (er : ER c F H σ ρ) (h : ((g ρ).bind k).run Z (ErE c W σ ρ F H))
    (hk : ∀ rs ρ1 p ws F1 H1, StpE c σ ρ F H ρ1 F1 H1 → H p = none → F1 p = none → H1 p = some (.lst ws) → ¬ Own σ ρ1 p → RReps c σ ρ1 F1 H1 (fun a => H a = none ∧ a ≠ p) ws rs → (k (rs, ρ1)).run Z (ErE c W σ ρ1 F1 H1) → R (.ref p) H1) : tR c W g σ H R :=
  ⟨ρ, F, er, (g ρ).mono (fun r h1 p ws F1 H1 st a b d e f => hk r.1 r.2 p ws F1 H1 st a b d e f ((k r).mono (fun _ z => z) (fun _ => ErE.step st) h1)) (fun _ z => z) h⟩
theorem vr_nil : PA X [] (tRA c W 0 rNil) := imp_PA pa_nil fun σ H Q ⟨ρ, F, er, z⟩ => z [] F H (StpE.refl er) trivial rfl
theorem none_of_th (s : StpE c σ ρ F H ρ1 F1 H1) {p : Addr} (h : H1 p = none) : H p = none := by
  cases e : H p with
  | none => rfl
  | some o => obtain ⟨o', e'⟩ := s.1.th p o e; rw [h] at e'; cases e'
theorem vr_pv (ha : PE X a (tE c W ga)) (hr : PA X es (tRA c W n gr)) (hs : starEach (a :: es) X.env = (false, eval a X.env) :: starEach es X.env := by rfl) : PA X (a :: es) (tRA c W (n + 1) (rPv ga gr)) :=
  imp_PA (pa_cons ha hr hs) fun σ H Q ⟨ρ, F, er, z⟩ => tE_bind er z fun v ρ1 w F1 H1 st rep h1 =>
    tRA_bind st.2 h1 fun rs ρ2 ws F2 H2 st2 rr hl h2 => h2 (w :: ws) F2 H2 (st.trans st2) ⟨rep.mono st2.1.ff, rr.weak fun a h => none_of_th st h⟩ (by rw [List.length_cons, hl])
theorem vr_ml (ha : PE X a (tL c W gl)) (hr : PA X es (tRA c W n gr)) (hs : starEach (a :: es) X.env = (false, eval a X.env) :: starEach es X.env := by rfl) : PA X (a :: es) (tRA c W (n + 1) (rMl gl gr)) :=
  imp_PA (pa_cons ha hr hs) fun σ H Q ⟨ρ, F, er, z⟩ => tL_bind er z fun v ρ1 p vs F1 H1 st hn hF hH no rep h1 =>
    tRA_bind st.2 h1 fun rs ρ2 ws F2 H2 st2 rr hl h2 => by
      obtain ⟨a1, a2, a3⟩ := (StpE.keeps (N := fun _ => True) st2).hh p _ trivial hH hF no
      exact h2 (.ref p :: ws) F2 H2 (st.trans st2) ⟨p, vs, rfl, hn, a2, a1, a3, rep.mono st2.1.ff, rr.weak fun a h => ⟨none_of_th st h, fun e => by rw [e, hH] at h; cases h⟩⟩ (by rw [List.length_cons, hl])
theorem vr_md {dpos : Pos} (hr : PA X es (tRA c W n gr)) (hs : starEach (.Dict [] [] dpos :: es) X.env = (false, eval (.Dict [] [] dpos) X.env) :: starEach es X.env := by rfl) : PA X (.Dict [] [] dpos :: es) (tRA c W (n + 1) (rMd gr)) :=
  imp_PA (pa_cons pe_dnewK hr hs) fun σ H Q ⟨ρ, F, er, z⟩ p hp => by
    have st := (upd_growH (o := .dK []) er.sub hp).stpE er
    have no := not_own_new er hp
    refine tRA_bind (k := fun b => (.ret (.md :: b.1, b.2) : Wp XE' (List RV × Env'))) (Z := OkRA c (n + 1) σ ρ F H Q) st.2 ((rMd gr ρ).mono (fun _ z => z) (fun _ => ErE.step st) z) fun rs ρ2 ws F2 H2 st2 rr hl h2 => ?_
    obtain ⟨a1, a2, a3⟩ := (StpE.keeps (N := fun _ => True) st2).hh p _ trivial upd_same (er.sub.free hp) no
    refine h2 (.ref p :: ws) F2 H2 (st.trans st2) ⟨p, rfl, hp, a2, a1, a3, rr.weak fun a h => ?_⟩ (by rw [List.length_cons, hl])
    have h' := none_of_th st h
    exact ⟨h', fun e => by subst e; rw [upd_same] at h; cases h⟩
theorem vr_disp (h : PA X es (tRA c W n gr)) : PE X (.List es pos) (tR c W (rDisp gr)) :=
  imp_PE (pe_lst h) fun σ H Q ⟨ρ, F, er, z⟩ => tRA_bind er z fun rs ρ1 ws F1 H1 st rr hl h1 => by
    by_cases hz : rs.length ≤ sizeLine
    · dsimp only at h1
      rw [if_pos hz] at h1
      refine ⟨by rw [rr.length]; exact hz, fun p hp => ?_⟩
      have g := upd_growH (o := .lst ws) st.2.sub hp
      have s2 := g.stpE st.2
      refine h1 p ws F1 _ (st.trans s2) (none_of_th st hp) (st.2.sub.free hp) upd_same (not_own_new st.2 hp) ?_
      have rr' : RReps c σ ρ1 F1 H1 (fun a => H a = none ∧ a ≠ p) ws rs := rr.keep .refl fun a o h e => ⟨h, fun z => by rw [z, hp] at e; cases e⟩
      exact rr'.keep s2.keeps fun _ _ z _ => z
    · dsimp only at h1
      rw [if_neg hz] at h1
      exact h1.elim
theorem vr_add (ha : PE X a (tE c W ga)) (hb : PE X b (tR c W gr)) : PE X (.BinOp a .Add b pos) (tR c W (rAdd ga gr)) :=
  imp_PE (pe_op op_cat ha hb) fun σ H Q ⟨ρ, F, er, z⟩ => tE_bind er z fun v ρ1 w F1 H1 st rep h1 => by
    cases rep with
    | @lst l vs g xs hF r t =>
      refine tR_bind st.2 h1 fun rs ρ2 p ws F2 H2 st2 hn hF2 hH no rr h2 => ?_
      dsimp only at h2
      split at h2
      · rename_i hz
        have st12 := st.trans st2
        refine ⟨l, p, vs, ws, rfl, rfl, st2.2.sub _ _ (st2.1.ff _ _ hF), hH, by rw [r.length, rr.length]; exact hz, fun q hq => ?_⟩
        have g := upd_growH (o := .lst (vs ++ ws)) st2.2.sub hq
        have s3 := g.stpE st2.2
        refine h2 q (vs ++ ws) F2 _ (st12.trans s3) (none_of_th st12 hq) (st2.2.sub.free hq) upd_same (not_own_new st2.2 hq) ?_
        have rr' : RReps c σ ρ2 F2 H2 (fun a => H a = none ∧ a ≠ q) ws rs := rr.keep .refl fun a o h e => ⟨none_of_th st h.1, fun z => by rw [z, hq] at e; cases e⟩
        exact RReps.ofReps (r.mono (st2.trans s3).1.ff) (rr'.keep s3.keeps fun _ _ z _ => z)
      · exact h2.elim
    | _ => exact h1.elim
theorem vr_slice {lo : Option Expr} {p2 : Pos} (hk : c.K = X.K) (ha : PE X a (tR c W gr)) (hl : PO X lo (tO c W go)) : PE X (.Subscript a (.Slice lo none none p2) pos) (tR c W (rSl gr go)) :=
  imp_PE (pe_slice sl_list ha hl po_none) fun σ H Q ⟨ρ, F, er, z⟩ => tR_bind er z fun rs ρ1 p ws F1 H1 st hn hF hH no rr h1 => tO_bind st.2 h1 fun i ρ2 F2 H2 st2 h2 => by
    have st12 := st.trans st2
    obtain ⟨a1, a2, a3⟩ := (StpE.keeps (N := fun _ => True) st2).hh p _ trivial hH hF no
    refine ⟨p, ws, rfl, SqL.of a1, fun q hq => ?_⟩
    have g := upd_growH (o := .lst (cutV ws i none)) st2.2.sub hq
    have s3 := g.stpE st2.2
    refine h2 q _ F2 _ (st12.trans s3) (none_of_th st12 hq) (st2.2.sub.free hq) upd_same (not_own_new st2.2 hq) ?_
    have rr' : RReps c σ ρ1 F1 H1 (fun a => H a = none ∧ a ≠ q) ws rs := rr.keep .refl fun a o h e => ⟨h.1, fun z => by
      have := none_of_th st2 (show H2 a = none by rw [z]; exact hq)
      rw [this] at e
      cases e⟩
    exact RReps.cut (rr'.keep (st2.trans s3).keeps fun _ _ z _ => z) i none
end
end VL

set_option Elab.async false
set_option linter.all false
set_option maxRecDepth 100000
set_option maxHeartbeats 1000000
/-! VL, part 15: a loop over such a list; its body may change the item. -/
namespace VL
open PySem PySem.Spec PyProof.Rows L2

/-- the item as the body sees it -/
def rTree : RV → Wp XE' PV
  | .pv v => .ret v.er
  | .ml xs => .all (fun _ => True) fun q => .ret (.lst (some q) (erL xs))
  | .md => .all (fun _ => True) fun q => .ret (.dic (some q) [])
def bodyE (ρ : Env') (iv : Nat) (t : PV) : Env' := ((ρ.map SV.er).map SV.hid).set iv (.fz t)
def forR (iv : Nat) (g : GS) : List RV → Env' → Wp XE' Out
  | [], ρ => .ret (.nx ρ)
  | r :: rs, ρ => (rTree r).bind fun t => (noE (g (bodyE ρ iv t))).bind fun o => match o with
    | .nx _ => forR iv g rs ρ
    | .ct _ => forR iv g rs ρ
    | .th none _ => forR iv g rs ρ
    | .rt v _ => .ret (.rt v.er ρ)
    | .th (some b) _ => .ret (.rt (.bl b) ρ)
    | .bk _ => .stuck
def pnOf (is : List Nat) (i : Nat) : Bool := !is.contains i
section
variable {c : Cn} {X : Cx} {W : WX} {pn : Nat → Bool} {g : GS} {pos : Pos} {σ σ' σ0 : St} {ρ ρ' ρ0 : Env'} {F H F' H' F0 H0 : Hp}
/-- where a loop stands: ρ with the loop's slots wiped -/
structure RAt (c : Cn) (pn : Nat → Bool) (is : List Nat) (σ0 : St) (ρ0 : Env') (F0 H0 : Hp) (ρ : Env') (F : Hp) (a : Addr) (ws : List V) (rs : List RV) (i : Nat) (σ : St) (H : Hp) : Prop where
  st : StpS c pn σ0 ρ0 F0 H0 σ ρ F H
  la : H a = some (.lst ws)
  no : ¬ Own σ ρ a
  Fa : F a = none
  rr : RReps c σ ρ F H (fun x => H0 x = none ∧ x ≠ a) (ws.drop i) (rs.drop i)
/-- the body's steps, seen from outside -/
theorem RAt.after {B : Addr → Prop} {is : List Nat} {a : Addr} {ws : List V} {rs : List RV} {i iv : Nat} {w : V} {t : PV} {Fb Fb' : Hp} {ρb : Env'} (h : RAt c pn is σ0 ρ0 F0 H0 (wipeE ρ is) F a ws rs i σ H) (hiv : iv ∈ is)
    (sub : ∀ p o, F p = some o → Fb p = some o) (hl : σ'.length = σ.length) (hp : ∀ j, j ∉ is → σ'[j]? = σ[j]?) (hpn : ∀ j, j ∈ is → pn j = false)
    (N : Addr → Prop) (keep : ∀ p o, H p = some o → N p → H' p = some o) (hF : ∀ p o, F p = some o → N p) (hn0 : ∀ p o, H0 p = some o → N p) (ha : N a) (th : ∀ p o, H p = some o → ∃ o', H' p = some o')
    (rr : RReps c σ (wipeE ρ is) F H (fun x => (H0 x = none ∧ x ≠ a) ∧ N x) (ws.drop (i + 1)) (rs.drop (i + 1))) (hN : ∀ p, Own σ (wipeE ρ is) p → N p) : RAt c pn is σ0 ρ0 F0 H0 (wipeE ρ is) F a ws rs (i + 1) σ' H' := by
  have get : ∀ {j : Nat} {s : SV}, (wipeE ρ is)[j]? = some s → s ≠ .un → σ'[j]? = σ[j]? := fun {j s} e n => by
    refine hp j fun hj => ?_
    rw [wipeE_get, if_pos hj] at e
    split at e
    · cases e; exact n rfl
    · cases e
  have own : ∀ {p}, Own σ' (wipeE ρ is) p ↔ Own σ (wipeE ρ is) p := fun {p} => ⟨fun ⟨j, s, a, b, d⟩ => ⟨j, s, by rw [← get b (fun z => by rw [z] at d; cases d)]; exact a, b, d⟩, fun ⟨j, s, a, b, d⟩ => ⟨j, s, by rw [get b (fun z => by rw [z] at d; cases d)]; exact a, b, d⟩⟩
  have er := h.st.2.1
  have er' : ER c F H' σ' (wipeE ρ is) := ⟨fun p o e => keep p o (er.sub p o e) (hF p o e), by rw [hl]; exact er.len, fun j o s h1 h2 => by
    cases s with
    | un => trivial
    | fz v => rw [get h2 (fun z => nomatch z)] at h1; exact er.slot j o _ h1 h2
    | ow xs =>
      rw [get h2 (fun z => nomatch z)] at h1
      obtain ⟨p, us, e, f, q, r⟩ := er.slot j o _ h1 h2
      subst e
      exact ⟨p, us, rfl, f, keep p _ q (hN p ⟨j, _, h1, h2, rfl⟩), r⟩
    | bx n =>
      rw [get h2 (fun z => nomatch z)] at h1
      obtain ⟨p, us, e, f, q, r⟩ := er.slot j o _ h1 h2
      subst e
      exact ⟨p, us, rfl, f, keep p _ q (hN p ⟨j, _, h1, h2, rfl⟩), r⟩, fun j k s t p h1 h2 h3 h4 h5 h6 => by
    rw [get h3 (fun z => by rw [z] at h5; cases h5)] at h1
    rw [get h4 (fun z => by rw [z] at h6; cases h6)] at h2
    exact er.dis j k s t p h1 h2 h3 h4 h5 h6⟩
  refine ⟨⟨⟨h.st.1.ff, fun p o e n => ?_, fun p o e => ?_, fun p z => h.st.1.ow p (own.mp z)⟩, er', fun j hj => ?_, hl.trans h.st.2.2.2⟩, keep a _ h.la ha, fun z => h.no (own.mp z), h.Fa, ?_⟩
  · obtain ⟨h1, h2⟩ := h.st.1.hh p o e n
    exact ⟨keep p o h1 (hn0 p o e), h2⟩
  · obtain ⟨o1, h1⟩ := h.st.1.th p o e
    exact th p o1 h1
  · rw [hp j (fun z => by rw [hpn j z] at hj; cases hj)]
    exact h.st.2.2.1 j hj
  · exact rr.keep ⟨Same.refl F, fun p o z e f n => ⟨keep p o e z.2, f, fun q => n (own.mp q)⟩⟩ fun p o z _ => z.1
/-- an item, ready for the body -/
structure ItemOk (c : Cn) (is : List Nat) (H0 : Hp) (ρ : Env') (F : Hp) (a : Addr) (ws : List V) (rest : List RV) (i : Nat) (σ : St) (H : Hp) (w : V) (t : PV) (B : Addr → Prop) (Fb : Hp) : Prop where
  sub : Same F Fb
  inH : Same Fb H
  rep : Rep (c.at B) Fb w t
  hF : ∀ p o, F p = some o → B p
  hn0 : ∀ p o, H0 p = some o → B p
  ha : B a
  hN : ∀ p, Own σ (wipeE ρ is) p → B p
  hFb : ∀ p, B p → F p = none → Fb p = none
  rr : RReps c σ (wipeE ρ is) F H (fun x => (H0 x = none ∧ x ≠ a) ∧ B x) (ws.drop (i + 1)) rest
theorem RAt.item {is : List Nat} {a : Addr} {ws : List V} {rs rest : List RV} {r : RV} {i : Nat} (h : RAt c pn is σ0 ρ0 F0 H0 (wipeE ρ is) F a ws rs i σ H) (hr : rs.drop i = r :: rest) :
    ∃ w t B Fb, ws[i]? = some w ∧ (∀ K E, (rTree r).run K E → K t) ∧ ItemOk c is H0 ρ F a ws rest i σ H w t B Fb := by
  have er := h.st.2.1
  have rr := h.rr
  rw [hr] at rr
  have inH : ∀ {p o}, H0 p = some o → H p ≠ none := fun {p o} e z => by
    obtain ⟨o1, h1⟩ := h.st.1.th p o e
    rw [h1] at z
    cases z
  cases hw : ws.drop i with
  | nil => rw [hw] at rr; cases r <;> exact rr.elim
  | cons w ws' =>
    have hi : ws[i]? = some w := by rw [← List.head?_drop, hw]; rfl
    have hd : ws.drop (i + 1) = ws' := by rw [← List.tail_drop, hw]; rfl
    rw [hw] at rr
    cases r with
    | pv v =>
      obtain ⟨r1, r2⟩ := rr
      refine ⟨w, v.er, fun x => H x ≠ none, F, hi, fun K E z => z, ⟨Same.refl F, er.sub, r1.er, fun p o e z => ?_, fun p o e => inH e, fun z => ?_, fun p z q => ?_, fun p _ z => z, ?_⟩⟩
      · rw [er.sub p o e] at z; cases z
      · rw [h.la] at z; cases z
      · obtain ⟨_, us, e⟩ := Own.tracked er z; rw [e] at q; cases q
      · rw [hd]; exact r2.keep .refl fun p o z e => ⟨z, by rw [e]; exact fun z => nomatch z⟩
    | ml xs =>
      obtain ⟨q, ys, rfl, hn, f, hq, no, ry, r2⟩ := rr
      have fz := freeze_grow er.sub f hq
      refine ⟨_, .lst (some q) (erL xs), fun x => H x ≠ none ∧ x ≠ q, upd F q (.lst ys), hi, fun K E z => z q trivial, ⟨fz.1, fz.2, .lst upd_same ((ry.mono fz.1).er') (fun p z => ?_), fun p o e => ⟨fun z => ?_, fun z => ?_⟩, fun p o e => ⟨inH e, fun z => ?_⟩, ⟨fun z => ?_, fun z => hn.2 z.symm⟩, fun p z => ⟨fun y => ?_, fun y => ?_⟩, fun p b z => ?_, ?_⟩⟩
      · cases z; exact ⟨rfl, fun z => z.2 rfl⟩
      · rw [er.sub p o e] at z; cases z
      · rw [z, f] at e; cases e
      · rw [z, hn.1] at e; cases e
      · rw [h.la] at z; cases z
      · obtain ⟨_, us, e⟩ := Own.tracked er z; rw [e] at y; cases y
      · rw [y] at z; exact no z
      · rw [upd_ne b.2]; exact z
      · rw [hd]; exact r2.keep .refl fun p o z e => ⟨z.1, by rw [e]; exact (fun z => nomatch z), z.2⟩
    | md =>
      obtain ⟨q, rfl, hn, f, hq, no, r2⟩ := rr
      have fz := freeze_grow er.sub f hq
      refine ⟨_, .dic (some q) [], fun x => H x ≠ none ∧ x ≠ q, upd F q (.dK []), hi, fun K E z => z q trivial, ⟨fz.1, fz.2, .dic upd_same .nil (fun p z => ?_), fun p o e => ⟨fun z => ?_, fun z => ?_⟩, fun p o e => ⟨inH e, fun z => ?_⟩, ⟨fun z => ?_, fun z => hn.2 z.symm⟩, fun p z => ⟨fun y => ?_, fun y => ?_⟩, fun p b z => ?_, ?_⟩⟩
      · cases z; exact ⟨rfl, fun z => z.2 rfl⟩
      · rw [er.sub p o e] at z; cases z
      · rw [z, f] at e; cases e
      · rw [z, hn.1] at e; cases e
      · rw [h.la] at z; cases z
      · obtain ⟨_, us, e⟩ := Own.tracked er z; rw [e] at y; cases y
      · rw [y] at z; exact no z
      · rw [upd_ne b.2]; exact z
      · rw [hd]; exact r2.keep .refl fun p o z e => ⟨z.1, by rw [e]; exact (fun z => nomatch z), z.2⟩
theorem forR_core {K : PySem.W.Frag} {is : List Nat} {iv : Nat} {D : Ends} {a : Addr} {ws : List V} {rs : List RV} (hiv : iv ∈ is) (hpn : ∀ j, j ∈ is → pn j = false)
    (st0 : RAt c pn is σ0 ρ0 F0 H0 (wipeE ρ is) F a ws rs 0 σ H) (run : (forR iv g rs (wipeE ρ is)).run (OkS c pn σ0 ρ0 F0 H0 D) (ErS c pn W σ0 ρ0 F0 H0)) :
    ∃ W0 : Nat → Nat → St → Hp → Prop, (∃ m, W0 0 m σ H) ∧ ∀ i m σ H, W0 i m σ H → ((Itl K a).stop i H ∧ D.nx σ H) ∨ ((Itl K a).go i H ∧ ∃ N : St → Hp → Prop, (∀ σ' H', N σ' H' → ∃ m', m' < m ∧ W0 (i + 1) m' σ' H') ∧
      ∀ x H', (Itl K a).yld i H x H' → gName iv x σ H' fun σ2 H2 => ∃ B, tS (c.at B) (pnOf is) W g { D with nx := N, ct := N, bk := D.nx } σ2 H2) := by
  have len0 := st0.rr.length
  rw [List.drop_zero, List.drop_zero] at len0
  refine ⟨fun i m σ' H' => m = rs.length - i ∧ i ≤ rs.length ∧ RAt c pn is σ0 ρ0 F0 H0 (wipeE ρ is) F a ws rs i σ' H' ∧ (forR iv g (rs.drop i) (wipeE ρ is)).run (OkS c pn σ0 ρ0 F0 H0 D) (ErS c pn W σ0 ρ0 F0 H0),
    ⟨_, rfl, Nat.zero_le _, st0, run⟩, fun i m σ1 H1 hW => ?_⟩
  obtain ⟨rfl, hle, h, run⟩ := hW
  by_cases hi : i < rs.length
  · obtain ⟨r, rest, hr⟩ : ∃ r rest, rs.drop i = r :: rest := ⟨rs[i], rs.drop (i + 1), List.drop_eq_getElem_cons hi⟩
    have hrest : rs.drop (i + 1) = rest := by rw [← List.tail_drop, hr]; rfl
    obtain ⟨w, t, B, Fb, hw, ht, T⟩ := h.item hr
    rw [hr] at run
    have run2 := ht _ _ run
    refine .inr ⟨⟨ws, w, SqL.of h.la, hw⟩, fun σ' H' => RAt c pn is σ0 ρ0 F0 H0 (wipeE ρ is) F a ws rs (i + 1) σ' H' ∧ (forR iv g (rs.drop (i + 1)) (wipeE ρ is)).run (OkS c pn σ0 ρ0 F0 H0 D) (ErS c pn W σ0 ρ0 F0 H0),
      fun σ' H' z => ⟨rs.length - (i + 1), by omega, rfl, hi, z.1, z.2⟩, fun x H2 hy => ?_⟩
    obtain ⟨eH, hy⟩ := hy
    subst eH
    have e2 := hy ws (SqL.of h.la)
    rw [hw] at e2
    cases e2
    have er := h.st.2.1
    have er1 : ER (c.at B) Fb H2 σ1 (((wipeE ρ is).map SV.er).map SV.hid) := (er.er (B := B)).map T.inH (fun j o s h1 h2 z => by
      cases s with
      | fz v => obtain ⟨u, e, r⟩ := z; exact ⟨u, e, r.mono T.sub⟩
      | _ => trivial) (fun t z => by rw [hid_own] at z; cases z)
    have er2 := er1.set (i := iv) T.rep
    have nOwn : ∀ p, ¬ Own (σ1.set iv (some w)) (bodyE (wipeE ρ is) iv t) p := fun p z => by
      obtain ⟨j, s, h1, h2, h3⟩ := own_set z
      rw [List.getElem?_map] at h2
      obtain ⟨y, e1, rfl⟩ := Option.map_eq_some_iff.mp h2
      rw [hid_own] at h3
      cases h3
    have hpin : ∀ {σ' : St}, (∀ j, pnOf is j = true → σ'[j]? = (σ1.set iv (some w))[j]?) → ∀ j, j ∉ is → σ'[j]? = σ1[j]? := fun {σ'} q j hj => by
      rw [q j (by unfold pnOf; simpa using hj), List.getElem?_set_ne (fun z => hj (by rw [← z]; exact hiv))]
    have hlen : ∀ {σ' : St}, σ'.length = (σ1.set iv (some w)).length → σ'.length = σ1.length := fun {σ'} q => by rw [q, List.length_set]
    have rr := T.rr
    rw [← hrest] at rr
    have nxt : ∀ {σ' ρ' F' H'}, StpS (c.at B) (pnOf is) (σ1.set iv (some w)) (bodyE (wipeE ρ is) iv t) Fb H2 σ' ρ' F' H' → RAt c pn is σ0 ρ0 F0 H0 (wipeE ρ is) F a ws rs (i + 1) σ' H' := fun {σ' ρ' F' H'} s =>
      h.after (iv := iv) (w := w) (t := t) (B := B) (Fb := Fb) (Fb' := Fb) (ρb := ρ) hiv T.sub (hlen s.2.2.2) (hpin s.2.2.1) hpn B (fun p o e _ => (s.1.hh p o e (nOwn p)).1) T.hF T.hn0 T.ha s.1.th rr T.hN
    have nxt2 : ∀ {σ' ρ' H'}, Thw (c.at B) (pnOf is) (σ1.set iv (some w)) (bodyE (wipeE ρ is) iv t) H2 σ' ρ' H' → RAt c pn is σ0 ρ0 F0 H0 (wipeE ρ is) F a ws rs (i + 1) σ' H' := fun {σ' ρ' H'} s =>
      h.after (iv := iv) (w := w) (t := t) (B := B) (Fb := Fb) (Fb' := Fb) (ρb := ρ) hiv T.sub (hlen s.len) (hpin s.pn) hpn B (fun p o e b => s.hh p o e (nOwn p) b) T.hF T.hn0 T.ha s.th rr T.hN
    refine ⟨B, _, Fb, er2, (g _).mono (fun o q => ?_) (fun e q => q.elim) run2⟩
    cases o with
    | nx ρ' => exact fun σ' F' H' s => ⟨nxt s, by rw [hrest]; exact q⟩
    | ct ρ' => exact fun σ' F' H' s => ⟨nxt s, by rw [hrest]; exact q⟩
    | bk ρ' => exact q.elim
    | rt v ρ' =>
      refine fun u σ' F' H' s rp => (show OkS c pn σ0 ρ0 F0 H0 D (.rt v.er (wipeE ρ is)) from q) u σ' F' H' ?_ (rp.er (B := c.B))
      have n := nxt s
      refine ⟨⟨n.st.1.ff.trans (T.sub.trans s.1.ff), fun p o e no => ⟨(n.st.1.hh p o e no).1, fun z => ?_⟩, n.st.1.th, n.st.1.ow⟩, ?_, n.st.2.2.1, n.st.2.2.2⟩
      · obtain ⟨a1, a2⟩ := h.st.1.hh p o e no
        exact (s.1.hh p o a1 (nOwn p)).2 (T.hFb p (T.hn0 p o e) (a2 z))
      · have e0 := n.st.2.1
        have hf : ∀ p vs, H' p = some (.lst vs) → Own σ' (wipeE ρ is) p → F' p = none := fun p vs _ z => by
          have z1 : Own σ1 (wipeE ρ is) p := by
            obtain ⟨j, y, b1, b2, b3⟩ := z
            refine ⟨j, y, ?_, b2, b3⟩
            rw [← hpin s.2.2.1 j (fun hj => by rw [wipeE_get, if_pos hj] at b2; split at b2 <;> cases b2; cases b3)]
            exact b1
          obtain ⟨f1, us, h1⟩ := Own.tracked er z1
          exact (s.1.hh p _ h1 (nOwn p)).2 (T.hFb p (T.hN p z1) f1)
        refine ⟨s.2.1.sub, e0.len, fun j o y h1 h2 => ?_, e0.dis⟩
        have z := e0.slot j o y h1 h2
        cases y with
        | un => trivial
        | fz v => obtain ⟨x, e, r⟩ := z; exact ⟨x, e, r.mono (T.sub.trans s.1.ff)⟩
        | ow xs => obtain ⟨p, us, e, f, b, r⟩ := z; subst e; exact ⟨p, us, rfl, hf p us b ⟨j, _, h1, h2, rfl⟩, b, r.mono (T.sub.trans s.1.ff)⟩
        | bx k => obtain ⟨p, us, e, f, b, r⟩ := z; subst e; exact ⟨p, us, rfl, hf p us b ⟨j, _, h1, h2, rfl⟩, b, r⟩
    | th o ρ' => cases o with
      | none => exact fun σ' H' s => ⟨fun _ => ⟨nxt2 s, by rw [hrest]; exact q⟩, fun b z => nomatch z⟩
      | some b => exact fun σ' H' s => ⟨(fun z => nomatch z), fun b' z => by
          cases z
          exact (show OkS c pn σ0 ρ0 F0 H0 D (.rt (.bl b) (wipeE ρ is)) from q) (.bl b) σ' F H' (nxt2 s).st (.bl b)⟩
  · have e : i = rs.length := by omega
    subst e
    rw [List.drop_length] at run
    exact .inl ⟨⟨ws, SqL.of h.la, by omega⟩, run σ1 F H1 h.st⟩
/-! ### the statements -/
theorem er_wipeE {is : List Nat} (er : ER c F H σ ρ) : ER c F H σ (wipeE ρ is) := by
  have get : ∀ {j : Nat} {s : SV}, (wipeE ρ is)[j]? = some s → s ≠ .un → ρ[j]? = some s := fun {j s} e n => by
    rw [wipeE_get] at e
    split at e
    · split at e
      · cases e; exact absurd rfl n
      · cases e
    · exact e
  refine ⟨er.sub, by rw [wipeE_length]; exact er.len, fun j o s h1 h2 => ?_, fun j k s t p h1 h2 h3 h4 h5 h6 => er.dis j k s t p h1 h2 (get h3 fun z => by rw [z] at h5; cases h5) (get h4 fun z => by rw [z] at h6; cases h6) h5 h6⟩
  by_cases e : s = .un
  · subst e; trivial
  · exact er.slot j o s h1 (get h2 e)
theorem own_wipeE {is : List Nat} {p : Addr} (h : Own σ (wipeE ρ is) p) : Own σ ρ p := by
  obtain ⟨j, s, h1, h2, h3⟩ := h
  rw [wipeE_get] at h2
  split at h2
  · split at h2
    · cases h2; cases h3
    · cases h2
  · exact ⟨j, s, h1, h2, h3⟩
theorem rat0 {is : List Nat} {a : Addr} {ws : List V} {rs : List RV} (st : StpS c pn σ0 ρ0 F0 H0 σ ρ F H) (la : H a = some (.lst ws)) (no : ¬ Own σ ρ a) (Fa : F a = none) (rr : RReps c σ ρ F H (fun x => H0 x = none ∧ x ≠ a) ws rs) :
    RAt c pn is σ0 ρ0 F0 H0 (wipeE ρ is) F a ws rs 0 σ H :=
  ⟨⟨st.1.less fun p z => own_wipeE z, er_wipeE st.2.1, st.2.2.1, st.2.2.2⟩, la, fun z => no (own_wipeE z), Fa, by
    rw [List.drop_zero, List.drop_zero]
    exact rr.keep ⟨Same.refl F, fun p o _ h f n => ⟨h, f, fun z => n (own_wipeE z)⟩⟩ fun _ _ z _ => z⟩
theorem pss_any {body : List Stmt} {is : List Nat} (hb : ∀ B, PSs X body (tS (c.at B) (pnOf is) W g)) : PSs X body (fun D σ H => ∃ B, tS (c.at B) (pnOf is) W g D σ H) := ⟨fun pins s σ H D I ⟨B, h⟩ => (hb B).run pins s σ H D I h⟩
theorem tR_bindS {gr : GR} {k : List RV × Env' → Wp XE' Out} {D : Ends} {R : VK} (er : ER c F H σ ρ) (h : ((gr ρ).bind k).run (OkS c pn σ ρ F H D) (ErS c pn W σ ρ F H))
    (hk : ∀ rs ρ1 p ws F1 H1, StpE c σ ρ F H ρ1 F1 H1 → H p = none → F1 p = none → H1 p = some (.lst ws) → ¬ Own σ ρ1 p → RReps c σ ρ1 F1 H1 (fun a => H a = none ∧ a ≠ p) ws rs → (k (rs, ρ1)).run (OkS c pn σ ρ F H D) (ErS c pn W σ ρ F H) → R (.ref p) H1) : tR c W gr σ H R :=
  ⟨ρ, F, er, (gr ρ).mono (fun r h1 p ws F1 H1 st a b d e f => hk r.1 r.2 p ws F1 H1 st a b d e f h1) (fun _ z => z.e) h⟩
def sForR (iv : Nat) (is : List Nat) (gr : GR) (g : GS) : GS := fun ρ => (gr ρ).bind fun a => forR iv g a.1 (wipeE a.2 is)
theorem vs_forR {tg iter : Expr} {body : List Stmt} {is : List Nat} {iv : Nat} {gr : GR} (hp : PassesOwn (model X.prog X.w) X.A X.env X.xe) (hc : X.calm = true) (hi : PE X iter (tR c W gr)) (hg : PG X tg (gName iv)) (hiv : iv ∈ is) (hpn : ∀ j, j ∈ is → pn j = false)
    (hb : ∀ B, PSs X body (tS (c.at B) (pnOf is) W g)) (hs : ∀ x, foldedSetIterable iter X.env x = pure x := by intro _; rfl) : PS X (.For tg iter body [] pos) (tS c pn W (sForR iv is gr g)) :=
  imp_PS (ps_for hp hc (pi_any hi) hg (pss_any hb) hs) fun D σ H ⟨ρ, F, er, z⟩ => tR_bindS er z fun rs ρ1 p ws F1 H1 st hn hF hH no rr h1 =>
    .inl ⟨p, ws, rfl, SqL.of hH, forR_core hiv hpn (rat0 st.s hH no hF rr) h1⟩
/-- slot j holds such a list, known from outside -/
def tSR (c : Cn) (pn : Nat → Bool) (W : WX) (j : Nat) (G : List RV → GS) : TS := fun D σ H => ∃ σ0 ρ0 F0 H0 ρ F p ws rs, StpS c pn σ0 ρ0 F0 H0 σ ρ F H ∧ σ[j]? = some (some (.ref p)) ∧ F p = none ∧ ¬ Own σ ρ p ∧ H p = some (.lst ws) ∧ RReps c σ ρ F H (fun a => H0 a = none ∧ a ≠ p) ws rs ∧
  (G rs ρ).run (OkS c pn σ0 ρ0 F0 H0 D) (ErS c pn W σ0 ρ0 F0 H0)
def sSetR (j : Nat) (gr : GR) (G : List RV → GS) : GS := fun ρ => (gr ρ).bind fun a => if j < a.2.length then G a.1 (a.2.set j (.fz .any)) else .stuck
theorem vss_setR {rest : List Stmt} {e : Expr} {j : Nat} {x : Str} {pos' : Pos} {gr : GR} {G : List RV → GS} (hN : X.N.Nodup) (hi : X.N[j]? = some x) (hx : Loc X.env.scope x) (hp : pn j = false) (he : PE X e (tR c W gr)) (hrest : PSs X rest (tSR c pn W j G)) (hs : swapsWith e (some (.Name x pos')) pos.line X.env = pure false := by rfl)
    (hf : X.fn x = true ∨ X.env.scope.names.lookup x = some .local := by first | exact .inl rfl | exact .inr rfl | assumption) : PSs X (.Assign [.Name x pos'] e pos :: rest) (tS c pn W (sSetR j gr G)) :=
  imp_PSs (pss_cons (ps_set hN hi hx he hs hf) hrest) fun D σ H ⟨ρ, F, er, z⟩ => tR_bindS er z fun rs ρ1 p ws F1 H1 st hn hF hH no rr h1 => by
    dsimp only at h1
    split at h1
    · rename_i hj
      have hl : j < σ.length := by rw [st.2.len]; exact hj
      refine ⟨σ, ρ, F, H, _, F1, p, ws, rs, ⟨st.1.less fun p q => own_set q, st.2.set (.any _), (fun i hi => List.getElem?_set_ne (fun q => by subst q; rw [hp] at hi; cases hi)), List.length_set⟩, List.getElem?_set_self hl, hF, fun z => no (own_set z), hH, ?_, h1⟩
      exact rr.keep ⟨Same.refl F1, fun q o _ h f n => ⟨h, f, fun z => n (own_set z)⟩⟩ fun _ _ z _ => z
    · exact h1.elim
def sForS (iv : Nat) (is : List Nat) (go : GO) (g : GS) : List RV → GS := fun rs ρ => (go ρ).bind fun i => forR iv g (cutP rs i.1 none) (wipeE i.2 is)
theorem vs_forRS {tg a : Expr} {lo : Option Expr} {body : List Stmt} {is : List Nat} {iv j : Nat} {p1 p2 : Pos} {go : GO} (hk : c.K = X.K) (hp : PassesOwn (model X.prog X.w) X.A X.env X.xe) (hc : X.calm = true) (ha : PE X a (tVar j)) (hl : PO X lo (tO c W go)) (hg : PG X tg (gName iv)) (hiv : iv ∈ is) (hpn : ∀ j, j ∈ is → pn j = false)
    (hb : ∀ B, PSs X body (tS (c.at B) (pnOf is) W g)) (hs : ∀ x, foldedSetIterable (.Subscript a (.Slice lo none none p2) p1) X.env x = pure x := by intro _; rfl) : PS X (.For tg (.Subscript a (.Slice lo none none p2) p1) body [] pos) (tSR c pn W j (sForS iv is go g)) :=
  imp_PS (ps_for hp hc (pi_any (pe_slice sl_list ha hl po_none)) hg (pss_any hb) hs) fun D σ H ⟨σ0, ρ0, F0, H0, ρ, F, p, ws, rs, st, hj, hF, no, hH, rr, z⟩ => by
    refine ⟨_, hj, ρ, F, st.2.1, (go ρ).mono (fun i h1 F1 H1 s1 => ?_) (fun e q => (q.step st).e) z⟩
    obtain ⟨a1, a2, a3⟩ := (StpE.keeps (N := fun _ => True) s1).hh p _ trivial hH hF no
    refine ⟨p, ws, rfl, SqL.of a1, fun q hq => ?_⟩
    have gq := upd_growH (o := .lst (cutV ws i.1 none)) s1.2.sub hq
    have s2 := gq.stpE s1.2
    have s12 := s1.trans s2
    refine .inl ⟨q, _, rfl, SqL.of upd_same, forR_core hiv hpn (rat0 (st.trans s12.s) upd_same (not_own_new s1.2 hq) (s1.2.sub.free hq) (RReps.cut ?_ i.1 none)) h1⟩
    exact (rr.keep (N := _) (M := fun x => H0 x = none ∧ x ≠ q) .refl fun x o h e => ⟨h.1, fun z => by
      have := none_of_th s1 (show H1 x = none by rw [z]; exact hq)
      rw [this] at e
      cases e⟩).keep s12.keeps fun _ _ z _ => z
theorem vs_forRN {tg a : Expr} {body : List Stmt} {is : List Nat} {iv j : Nat} (hp : PassesOwn (model X.prog X.w) X.A X.env X.xe) (hc : X.calm = true) (ha : PE X a (tVar j)) (hg : PG X tg (gName iv)) (hiv : iv ∈ is) (hpn : ∀ j, j ∈ is → pn j = false)
    (hb : ∀ B, PSs X body (tS (c.at B) (pnOf is) W g)) (hs : ∀ x, foldedSetIterable a X.env x = pure x := by intro _; rfl) : PS X (.For tg a body [] pos) (tSR c pn W j fun rs ρ => forR iv g rs (wipeE ρ is)) :=
  imp_PS (ps_for hp hc (pi_any ha) hg (pss_any hb) hs) fun D σ H ⟨σ0, ρ0, F0, H0, ρ, F, p, ws, rs, st, hj, hF, no, hH, rr, z⟩ =>
    ⟨_, hj, .inl ⟨p, ws, rfl, SqL.of hH, forR_core hiv hpn (rat0 st hH no hF rr) z⟩⟩
theorem vss_consR {st : Stmt} {rest : List Stmt} {j : Nat} {G : List RV → GS} {h : GS} (h1 : PS X st (tSR c pn W j G)) (h2 : PSs X rest (tS c pn W h)) : PSs X (st :: rest) (tSR c pn W j fun rs => sSeq (G rs) h) :=
  imp_PSs (pss_cons h1 h2) fun D σ H ⟨σ0, ρ0, F0, H0, ρ, F, p, ws, rs, s, hj, hF, no, hH, rr, z⟩ => ⟨σ0, ρ0, F0, H0, ρ, F, p, ws, rs, s, hj, hF, no, hH, rr, (G rs ρ).mono (fun o q => by
    cases o with
    | nx ρ1 => exact fun σ' F' H' s => ⟨ρ1, F', s.2.1, run_stepS s q⟩
    | bk ρ1 => exact q
    | ct ρ1 => exact q
    | rt v ρ1 => exact q
    | th o ρ1 => cases o with
      | none => exact q.elim
      | some b => exact fun σ' H' t => ⟨(fun z => nomatch z), (show OkS c pn σ0 ρ0 F0 H0 D (.th (some b) ρ1) from q) σ' H' t |>.2⟩) (fun _ q => q) z⟩
end
end VL

set_option Elab.async false
set_option linter.all false
set_option maxRecDepth 100000
set_option maxHeartbeats 1000000
/-! VL, part 16: new lists of defs, the box, tables of the top, defs from the head. -/
namespace VL
open PySem PySem.Spec PyProof.Rows L2

/-! ### a def as the head tells it -/
theorem fun_of {K : PySem.W.Frag} {x qual : Str} {st : Stmt} {f : Addr} {fd : FuncData} (F : FunD K x qual (defArgs st) (defBody st) (defScope st) [] [] f fd) : Fun K x qual st f fd := by
  obtain ⟨oc, od, dV, kV, doc, pm, an, cdv, ct, osl, e, lk, hc, hd, hk⟩ := F.ex
  rcases hd with ⟨_, rfl⟩ | ⟨n, _⟩
  · exact ⟨⟨oc, od, kV, doc, pm, an, cdv, ct, osl, e, lk, hc⟩, F.kp⟩
  · exact absurd rfl n

/-! ### a def that gives a new list: its one statement returns it -/
abbrev GFL := List PV → Wp XE' (List PV)
def SpL (c : Cn) (n : Nat) (m : GFL) : Sp := fun vs H Q _ => vs.length = n ∧ ∃ F xs, Same F H ∧ Reps c F vs xs ∧
  (m xs).run (fun ys => ∀ p us F' H', Grow F H F' H' → H p = none → F' p = none → H' p = some (.lst us) → Reps c F' us ys → Q (.ref p) H') (fun _ => False)
def fnL (n : Nat) (gl : GL) : GFL := fun xs => (noE (gl (fzs xs ++ List.replicate (n - xs.length) .un))).bind fun r => .ret r.1
section
variable {c : Cn} {P : Program} {w : World} {K : PySem.W.Frag} {mg : Str → Option Value} {base : Heap} {x qual : Str} {st : Stmt} {f : Addr} {fd : FuncData} {N ps : List Str} {k n : Nat}
theorem fnL_ok {gl : GL} {e : Expr} {pos : Pos} (Fn : Fun K x qual st f fd) (S : FnScope N ps (defScope st)) (hn : ps.length = n) (hl : ps.length ≤ N.length) (hd : defBody st = [.Return (some e) pos])
    (hbody : ∀ (cdv : Value) (A : Around) (outer : List Env) (s : Shared) (H : Hp) (E : XK), Room k (A.deeper (envOfC qual (defScope st) s.heap.objs.size f cdv)) →
      PE (cxOf (L2.CX P w) P w K mg base N qual (defScope st) f cdv A outer s H E) e (tL c (fun cls d _ H' => E cls d H') gl)) : FnOk P w K mg base (L2.CX P w) (k + 1) f fd ps (SpL c n (fnL N.length gl)) :=
  Fn.okX S (fun vs H Q E h => h.1.trans hn.symm) fun cdv A outer s H vs Q E hr h => by
    refine ⟨_, by rw [hd]; exact pss_one (ps_ret (hbody cdv A outer s H E hr)), ?_⟩
    obtain ⟨hv, F, xs, sub, rep, z⟩ := h
    have er := rep.er sub
    have hvl : vs.length ≤ N.length := by omega
    obtain ⟨er0, ow0⟩ := er_enter er hvl
    have nOwn : ∀ p, ¬ Own (L2.start N vs) (fzs xs ++ List.replicate (N.length - (fzs xs).length) .un) p := fun p z => fzs_own ((ow0 p).mp z)
    have hx : (fzs xs).length = xs.length := by unfold fzs; rw [List.length_map]
    unfold fnL at z
    rw [hx] at er0 nOwn
    refine ⟨_, F, er0, (gl _).mono (fun r q p us F' H' st' h1 h2 h3 h4 h5 => ?_) (fun e q => q.elim) z⟩
    exact q p us F' H' ⟨st'.1.ff, fun a o z => (st'.1.hh a o z (nOwn a)).1, st'.2.sub, fun a o z => (st'.1.hh a o z (nOwn a)).2⟩ h1 h2 h3 h5
end
structure FvL (P : Program) (w : World) (K : PySem.W.Frag) (mg : Str → Option Value) (base : Heap) (c : Cn) (k : Nat) (x : Str) (n : Nat) (m : GFL) : Prop where
  ex : ∃ (f : Addr) (fd : FuncData) (ps : List Str), ps.length = n ∧ mg x = some (.ref f) ∧ FnOk P w K mg base (L2.CX P w) k f fd ps (SpL c n m) ∧ PySem.W.keepIn K (.ref f) = true ∧ Binds K fd ps []
def lCall (m : GFL) (ga : GA) : GL := fun ρ => (ga ρ).bind fun a => (noE (m a.1)).bind fun r => .ret (r, a.2)
section
variable {c : Cn} {X : Cx} {W : WX} {pn : Nat → Bool} {pos p : Pos} {x : Str} {a b : Expr} {ga gb : GE}
theorem vl_callF {k j n : Nat} {m : GFL} {e : Expr} {es : List Expr} {ga : GA} (F : FvL X.prog X.w X.K X.mg X.base c k x n m) (hr : Room j X.A) (hj : k ≤ j) (hg : Gl X x) (tk : Takes X W) (ha : PA X (e :: es) (tA c W n ga))
    (hdb : (x == ("__debug__" : Str)) = false := by decide) (he : starEach (e :: es) X.env = (false, eval e X.env) :: starEach es X.env := by rfl) (hpl : (backTo pos (starEach es X.env)).any (·.1) = false := by rfl) :
    PE X (.Call (.Name x p) (e :: es) [] pos) (tL c W (lCall m ga)) := by
  obtain ⟨f, fd, ps, hp, hm, G, kp, hb⟩ := F.ex
  exact imp_PE (pe_callS G (hr.mono hj) hg hm kp hb (fun σ => passAt tk σ) ha hdb he hpl) fun σ H Q ⟨ρ, F, er, z⟩ =>
    tA_bind er z fun v ρ1 vs F1 H1 st rep hl h1 => ⟨hl, F1, v, st.2.sub, rep, (m v).mono (fun ys q p us F' H' gr h1 h2 h3 h4 => by
      have s2 := gr.stpE st.2
      exact q p us F' H' (st.trans s2) (none_of_th st h1) h2 h3 (fun z => not_own_new st.2 h1 z) h4) (fun _ z => z) h1⟩

/-! ### the box -/
def sBox (i : Nat) (g : GL) : GS := fun ρ => (g ρ).bind fun a => match a.1 with
  | [.int x, .bl _, .int d, .int m] => if 0 ≤ x ∧ 0 ≤ d ∧ d < 2147483629 ∧ 0 ≤ m then .ret (.nx (a.2.set i (.bx m.toNat))) else .stuck
  | _ => .stuck
theorem er_ownS {F H : Hp} {σ : St} {ρ : Env'} {i : Nat} {p : Addr} {s0 : SV} (er : ER c F H σ ρ) (hs : SlotR c F H (some (.ref p)) s0) (no : ¬ Own σ ρ p) :
    ER c F H (σ.set i (some (.ref p))) (ρ.set i s0) ∧ ∀ q, Own (σ.set i (some (.ref p))) (ρ.set i s0) q → Own σ ρ q ∨ q = p := by
  have len : ∀ {s : SV} {y : SV}, (ρ.set i y)[i]? = some s → i < ρ.length := fun {s y} h => by
    have := (List.getElem?_eq_some_iff.mp h).1
    rwa [List.length_set] at this
  have at_ : ∀ {j s q}, (σ.set i (some (.ref p)))[j]? = some (some (.ref q)) → (ρ.set i s0)[j]? = some s → s.own = true → (j = i ∧ q = p) ∨ (j ≠ i ∧ σ[j]? = some (some (.ref q)) ∧ ρ[j]? = some s) := fun {j s q} h1 h2 h3 => by
    by_cases hj : i = j
    · subst hj
      have hl := len h2
      rw [List.getElem?_set_self (by rw [er.len]; exact hl)] at h1
      cases h1
      exact .inl ⟨rfl, rfl⟩
    · rw [List.getElem?_set_ne hj] at h1 h2
      exact .inr ⟨Ne.symm hj, h1, h2⟩
  refine ⟨⟨er.sub, by rw [List.length_set, List.length_set]; exact er.len, fun j o s h1 h2 => ?_, fun j k s t q h1 h2 h3 h4 h5 h6 => ?_⟩, fun q ⟨j, s, h1, h2, h3⟩ => ?_⟩
  · by_cases hj : i = j
    · subst hj
      have hl := len h2
      rw [List.getElem?_set_self hl] at h2
      rw [List.getElem?_set_self (by rw [er.len]; exact hl)] at h1
      cases h1
      cases h2
      exact hs
    · rw [List.getElem?_set_ne hj] at h1 h2
      exact er.slot j o s h1 h2
  · rcases at_ h1 h3 h5 with ⟨e1, e2⟩ | ⟨n1, a1, b1⟩
    · rcases at_ h2 h4 h6 with ⟨e3, e4⟩ | ⟨n2, a2, b2⟩
      · exact e1.trans e3.symm
      · subst e2
        exact absurd ⟨k, t, a2, b2, h6⟩ no
    · rcases at_ h2 h4 h6 with ⟨e3, e4⟩ | ⟨n2, a2, b2⟩
      · subst e4
        exact absurd ⟨j, s, a1, b1, h5⟩ no
      · exact er.dis j k s t q a1 a2 b1 b2 h5 h6
  · rcases at_ h1 h2 h3 with ⟨e1, e2⟩ | ⟨n1, a1, b1⟩
    · exact .inr e2
    · exact .inl ⟨j, s, a1, b1, h3⟩
theorem vs_box {i : Nat} {e : Expr} {x : Str} {pos' : Pos} {gl : GL} (hN : X.N.Nodup) (hi : X.N[i]? = some x) (hx : Loc X.env.scope x) (hp : pn i = false) (he : PE X e (tL c W gl)) (hs : swapsWith e (some (.Name x pos')) pos.line X.env = pure false := by rfl)
    (hf : X.fn x = true ∨ X.env.scope.names.lookup x = some .local := by first | exact .inl rfl | exact .inr rfl | assumption) : PS X (.Assign [.Name x pos'] e pos) (tS c pn W (sBox i gl)) :=
  imp_PS (ps_set hN hi hx he hs hf) fun D σ H ⟨ρ, F, er, z⟩ => ⟨ρ, F, er, (gl ρ).mono (fun r h1 p vs F1 H1 st hn hF hH no rep => by
    obtain ⟨v, ρ1⟩ := r
    dsimp only at h1
    split at h1
    · rename_i a b d m
      split at h1
      · rename_i hz
        have ev : vs = [.int a, .bl b, .int d, .int m] := by
          cases rep with
          | cons r1 t1 => cases t1 with
            | cons r2 t2 => cases t2 with
              | cons r3 t3 => cases t3 with
                | cons r4 t4 => cases t4; cases r1; cases r2; cases r3; cases r4; rfl
        subst ev
        obtain ⟨er2, ow2⟩ := er_ownS (i := i) (s0 := .bx m.toNat) st.2 ⟨p, _, rfl, hF, hH, a, b, d, m, rfl, hz.1, hz.2.1, hz.2.2.1, hz.2.2.2, by omega⟩ no
        refine h1 _ F1 H1 ⟨⟨st.1.ff, st.1.hh, st.1.th, fun q z => ?_⟩, er2, (fun j hj => List.getElem?_set_ne (fun q => by subst q; rw [hp] at hj; cases hj)), List.length_set⟩
        rcases ow2 q z with z | z
        · exact st.1.ow q z
        · subst z; exact .inr hn
      · exact h1.elim
    · exact h1.elim) (fun _ q => q.e) z⟩
end
/-- the next digit, whatever it is -/
def mTake : GF := fun ss => match ss with
  | [.bx n, .fz (.int many)] => if 0 < many ∧ many < 1073741824 ∧ n < 4294967296 then .all (fun d : Int => 0 ≤ d ∧ d < many) fun d => .ret (.int d, [.bx (n + 1), .un]) else .stuck
  | _ => .stuck
/-- what a def for digits does with the box's four entries -/
def TakesBox (m : GF) : Prop := ∀ (a : Int) (b : Bool) (d k : Int) (n : Nat) (many : Int) (K : PV × List SV → Prop) (E : XE' → Prop), 0 ≤ a → 0 ≤ d → d < 2147483629 → 0 ≤ k → k ≤ n → 0 < many → many < 1073741824 → n < 4294967296 →
  (∀ (a' : Int) (b' : Bool) (d' k' z : Int), 0 ≤ a' → 0 ≤ d' → d' < 2147483629 → 0 ≤ k' → k' ≤ n + 1 → 0 ≤ z → z < many → K (.int z, [.ow [.int a', .bl b', .int d', .int k'], .un])) → (m [.ow [.int a, .bl b, .int d, .int k], .fz (.int many)]).run K E
theorem reps4 {c : Cn} {F : Hp} {vs : List V} {a d m : Int} {b : Bool} (rep : Reps c F vs [.int a, .bl b, .int d, .int m]) : vs = [.int a, .bl b, .int d, .int m] := by
  cases rep with
  | cons r1 t1 => cases t1 with
    | cons r2 t2 => cases t2 with
      | cons r3 t3 => cases t3 with
        | cons r4 t4 => cases t4; cases r1; cases r2; cases r3; cases r4; rfl
theorem er_view {c : Cn} {F H : Hp} {σ : St} {ρ : Env'} {i : Nat} {s s' : SV} (er : ER c F H σ ρ) (hi : ρ[i]? = some s) (ho : s.own = true) (ho' : s'.own = true) (hs : ∀ o, σ[i]? = some o → SlotR c F H o s') :
    ER c F H σ (ρ.set i s') ∧ ∀ p, Own σ (ρ.set i s') p ↔ Own σ ρ p := by
  have hil : i < ρ.length := (List.getElem?_eq_some_iff.mp hi).1
  have get : ∀ {j : Nat} {t : SV}, (ρ.set i s')[j]? = some t → t.own = true → ∃ t', ρ[j]? = some t' ∧ t'.own = true := fun {j t} h o => by
    by_cases hj : i = j
    · subst hj; exact ⟨s, hi, ho⟩
    · rw [List.getElem?_set_ne hj] at h; exact ⟨t, h, o⟩
  have get' : ∀ {j : Nat} {t : SV}, ρ[j]? = some t → t.own = true → ∃ t', (ρ.set i s')[j]? = some t' ∧ t'.own = true := fun {j t} h o => by
    by_cases hj : i = j
    · subst hj; exact ⟨s', List.getElem?_set_self hil, ho'⟩
    · exact ⟨t, by rw [List.getElem?_set_ne hj]; exact h, o⟩
  refine ⟨⟨er.sub, by rw [List.length_set]; exact er.len, fun j o t h1 h2 => ?_, fun j k t u p h1 h2 h3 h4 h5 h6 => ?_⟩, fun p => ⟨fun ⟨j, t, h1, h2, h3⟩ => ?_, fun ⟨j, t, h1, h2, h3⟩ => ?_⟩⟩
  · by_cases hj : i = j
    · subst hj
      rw [List.getElem?_set_self hil] at h2
      cases h2
      exact hs o h1
    · rw [List.getElem?_set_ne hj] at h2
      exact er.slot j o t h1 h2
  · obtain ⟨t1, a1, b1⟩ := get h3 h5
    obtain ⟨t2, a2, b2⟩ := get h4 h6
    exact er.dis j k t1 t2 p h1 h2 a1 a2 b1 b2
  · obtain ⟨t1, a1, b1⟩ := get h2 h3
    exact ⟨j, t1, h1, a1, b1⟩
  · obtain ⟨t1, a1, b1⟩ := get' h2 h3
    exact ⟨j, t1, h1, a1, b1⟩
theorem take_sp {c : Cn} {m : GF} (T : TakesBox m) {vs : List V} {H : Hp} {Q : VK} {E : XK} (h : SpV c 2 mTake vs H Q E) : SpV c 2 m vs H Q E := by
  obtain ⟨hl, F, ss, er, z⟩ := h
  unfold mTake at z
  split at z
  · rename_i n many
    split at z
    · rename_i hz
      obtain ⟨p, us, e1, hF, hH, a, b, d, k, rfl, h1, h2, h3, h4, h5⟩ := er.bx (i := 0) rfl
      obtain ⟨er2, ow2⟩ := er_view (s' := .ow [.int a, .bl b, .int d, .int k]) er (i := 0) rfl rfl rfl fun o ho => by
        rw [e1] at ho
        cases ho
        exact ⟨p, _, rfl, hF, hH, .cons (.int a) (.cons (.bl b) (.cons (.int d) (.cons (.int k) .nil)))⟩
      refine ⟨hl, F, _, er2, T a b d k n many _ _ h1 h2 h3 h4 h5 hz.1 hz.2.1 hz.2.2 fun a' b' d' k' q g1 g2 g3 g4 g5 g6 g7 => ?_⟩
      intro w F' H' st rp
      obtain ⟨p', us', e1', hF', hH', r'⟩ := st.2.ow (i := 0) rfl
      have e4 := reps4 r'
      subst e4
      obtain ⟨er3, ow3⟩ := er_view (s' := .bx (n + 1)) st.2 (i := 0) rfl rfl rfl fun o ho => by
        rw [e1'] at ho
        cases ho
        exact ⟨p', _, rfl, hF', hH', a', b', d', k', rfl, g1, g2, g3, g4, by omega⟩
      exact z q ⟨g6, g7⟩ w F' H' ⟨⟨st.1.ff, fun x o e no => st.1.hh x o e fun y => no ((ow2 x).mp y), st.1.th, fun x y => (st.1.ow x ((ow3 x).mp y)).imp (ow2 x).mp id⟩, er3⟩ rp
    · exact z.elim
  · exact z.elim
theorem take_fn {c : Cn} {P : Program} {w : World} {K : PySem.W.Frag} {mg : Str → Option Value} {base : Heap} {f : Addr} {fd : FuncData} {ps : List Str} {k : Nat} {m : GF} (T : TakesBox m) (F : FnOk P w K mg base (L2.CX P w) k f fd ps (SpV c 2 m)) :
    FnOk P w K mg base (L2.CX P w) k f fd ps (SpV c 2 mTake) := F.imp fun vs H Q E h => take_sp T h
theorem Fv.take {c : Cn} {P : Program} {w : World} {K : PySem.W.Frag} {mg : Str → Option Value} {base : Heap} {x : Str} {k : Nat} {m : GF} (T : TakesBox m) (F : Fv P w K mg base c k x 2 m) : Fv P w K mg base c k x 2 mTake := by
  obtain ⟨f, fd, ps, h1, h2, h3, h4, h5⟩ := F.ex
  exact ⟨f, fd, ps, h1, h2, take_fn T h3, h4, h5⟩

/-! ### a table of the top -/
def scalO : Value → Option V
  | .bool b => some (.bl b)
  | .none => some .non
  | .int i _ => some (.int i)
  | .str x _ => some (.str x)
  | _ => none
def entO (e : DictEntry) : Option (Str × V) := match e.key with
  | .str x _ => (scalO e.val).map fun v => (x, v)
  | _ => none
def tabB (K : PySem.W.Frag) (d : Addr) (kvs : List (Str × V)) : Bool := match K.lookup d with
  | some ⟨_, _, .dict es _, _⟩ => decide (es.toList.map entO = kvs.map some)
  | _ => false
theorem scalO_ok {u : Value} {v : V} (h : scalO u = some v) : RelV v u := by
  cases u <;> simp only [scalO] at h <;> first | (cases h; first | rfl | exact ⟨_, rfl⟩) | cases h
theorem find_ent {z : Str} : ∀ {es : List DictEntry} {kvs : List (Str × V)}, es.map entO = kvs.map some →
    (match kvs.lookup z with | some v => ∃ e, es.find? (·.key.isStr z) = some e ∧ RelV v e.val | none => es.find? (·.key.isStr z) = none) ∧ es.any (·.refKey) = false
  | [], [], _ => ⟨rfl, rfl⟩
  | [], _ :: _, h => by cases h
  | _ :: _, [], h => by cases h
  | e :: es, (k, v) :: kvs, h => by
    simp only [List.map_cons, List.cons.injEq] at h
    obtain ⟨h1, h2⟩ := h
    obtain ⟨r1, r2⟩ := find_ent (z := z) h2
    unfold entO at h1
    split at h1
    · rename_i y t hk
      obtain ⟨u, hu, e2⟩ := Option.map_eq_some_iff.mp h1
      cases e2
      have e3 : e.key.isStr z = (k == z) := by rw [hk]; rfl
      have e4 : e.refKey = false := by unfold DictEntry.refKey; rw [hk]
      refine ⟨?_, by rw [List.any_cons, e4, r2]; rfl⟩
      rw [List.lookup_cons, List.find?_cons, e3]
      by_cases hz : k = z
      · subst hz
        simp only [beq_self_eq_true]
        exact ⟨e, rfl, scalO_ok hu⟩
      · have a1 : (k == z) = false := by simpa using hz
        have a2 : (z == k) = false := by simpa using fun q => hz q.symm
        rw [a1, a2]
        exact r1
    · cases h1
structure TabK (K : PySem.W.Frag) (w : World) (mg : Str → Option Value) (x : Str) (kvs : List (Str × V)) : Prop where
  ex : ∃ d es n, mg x = some (.ref d) ∧ KDict K w d es n ∧ ∀ z, ∃ r, PySem.W.nsIn K d z = some r ∧ match kvs.lookup z with | some v => ∃ u, r = some u ∧ RelV v u | none => r = none
theorem tab_ok {K : PySem.W.Frag} {w : World} {mg : Str → Option Value} {x : Str} {kvs : List (Str × V)} {d : Addr} {es : Array DictEntry} {n : Nat} (hm : mg x = some (.ref d)) (D : KDict K w d es n) (h : tabB K d kvs = true) : TabK K w mg x kvs := by
  refine ⟨d, es, n, hm, D, fun z => ?_⟩
  unfold tabB at h
  rw [D.at_] at h
  obtain ⟨r1, r2⟩ := find_ent (z := z) (of_decide_eq_true h)
  unfold PySem.W.nsIn
  rw [D.at_]
  dsimp only
  cases hl : kvs.lookup z with
  | none =>
    rw [hl] at r1
    rw [r1, r2]
    exact ⟨none, rfl, rfl⟩
  | some v =>
    rw [hl] at r1
    obtain ⟨e, h1, h2⟩ := r1
    rw [h1]
    exact ⟨some e.val, rfl, e.val, rfl, h2⟩
def vPV : V → PV
  | .non => .non
  | .bl b => .bl b
  | .int i => .int i
  | .str x => .str x
  | _ => .any
theorem vPV_rep {c : Cn} {F : Hp} : ∀ v : V, Rep c F v (vPV v)
  | .non => .non
  | .bl b => .bl b
  | .int i => .int i
  | .str x => .str x
  | .byt b => .any _
  | .flt b => .any _
  | .ref a => .any _
  | .ty n => .any _
def tabIn (kvs : List (Str × V)) : PV → Option PV
  | .str z => some (.bl (kvs.lookup z).isSome)
  | _ => none
def tabIx (kvs : List (Str × V)) : PV → Option PV
  | .str z => (kvs.lookup z).map vPV
  | _ => none
section
variable {c : Cn} {X : Cx} {W : WX} {a : Expr} {ga : GE} {x : Str} {pos p : Pos} {kvs : List (Str × V)}
theorem ve_tabIn (T : TabK X.K X.w X.mg x kvs) (hg : Gl X x) (ha : PE X a (tE c W ga)) (hm : behindInMarks .In (.Name x p) = false := by rfl) (hd : (x == ("__debug__" : Str)) = false := by decide) : PE X (.Compare a [.In] [.Name x p] pos) (tE c W (eOp1 (tabIn kvs) ga)) := by
  obtain ⟨d, es, n, hm', D, hz⟩ := T.ex
  refine imp_PE (pe_cmpR (op_in_kd D) ha (pe_glob hg hm' (v := .ref d) rfl hd) hm) fun σ H Q ⟨ρ, F, er, z⟩ => tE_bind er z fun v ρ1 w F1 H1 st rep h1 => ?_
  obtain ⟨u, e, h1⟩ := lift_run h1
  cases rep with
  | str y =>
    cases e
    obtain ⟨r, h2, h3⟩ := hz y
    have hb : r.isSome = (kvs.lookup y).isSome := by
      cases hl : kvs.lookup y with
      | none => rw [hl] at h3; dsimp only at h3; rw [h3]; rfl
      | some v => rw [hl] at h3; obtain ⟨u, e, _⟩ := h3; rw [e]; rfl
    exact ⟨y, r, rfl, rfl, h2, by rw [hb]; exact h1 _ F1 H1 st (.bl _)⟩
  | _ => cases e
theorem ve_tabIx (T : TabK X.K X.w X.mg x kvs) (hg : Gl X x) (ha : PE X a (tE c W ga)) (hs : PlainIx a := by intro _ _; rfl) (hd : (x == ("__debug__" : Str)) = false := by decide) : PE X (.Subscript (.Name x p) a pos) (tE c W (eOp1 (tabIx kvs) ga)) := by
  obtain ⟨d, es, n, hm', D, hz⟩ := T.ex
  refine imp_PE (pe_ix ix_kdict (pe_glob hg hm' (v := .ref d) rfl hd) ha hs) fun σ H Q ⟨ρ, F, er, z⟩ => tE_bind er z fun v ρ1 w F1 H1 st rep h1 => ?_
  obtain ⟨u, e, h1⟩ := lift_run h1
  cases rep with
  | str y =>
    obtain ⟨v, hl, e2⟩ := Option.map_eq_some_iff.mp (show (kvs.lookup y).map vPV = some u from e)
    obtain ⟨r, h2, h3⟩ := hz y
    rw [hl] at h3
    obtain ⟨u0, e3, h4⟩ := h3
    subst e2
    rw [e3] at h2
    exact ⟨d, y, v, rfl, rfl, ⟨es, n, u0, D.at_, D.lit, h2, h4⟩, h1 _ F1 H1 st (vPV_rep v)⟩
  | _ => cases e
end
end VL

set_option Elab.async false
set_option linter.all false
set_option maxRecDepth 100000
set_option maxHeartbeats 1000000
/-! VL, part 17: the text's own error classes with one field. -/
namespace VL
open PySem PySem.Spec PyProof.Rows L2

def oexB (K : PySem.W.Frag) (C : Addr) : Bool := match K.lookup C with
  | some ⟨.type "type", _, .cls cd, sl⟩ => (match cd.mro, sl.toList with
    | .ref C' :: bm, [_, _, _, _, some (.builtin n), _] => C' == C && (n == "ValueError.__new__" && (!cd.hasDel && (cd.hasDict && PySem.HandSPX.refsVE bm)))
    | _, _ => false)
  | _ => false
def excB (K : PySem.W.Frag) (x f : Str) : Bool := oexB K (He.ga K x) && (decide (PySem.W.findIn K (.ref (He.ga K x)) "__setattr__" = some (some (.builtin "object.__setattr__"))) &&
  (decide (PySem.W.subIn K (.ref (He.ga K x)) (.type "BaseException") = some true) && (decide (PySem.W.typeIn K (.ref (He.ga K x)) = some (.type "type")) && (PySem.W.keepIn K (.ref (He.ga K x)) &&
  (decide (PySem.W.findIn K (.ref (He.ga K x)) f = some none) && (decide (PySem.W.findIn K (.ref (He.ga K x)) "__init__" = some (some (.ref (He.ma K (He.ga K x) "__init__")))) &&
  (decide (PySem.W.typeIn K (.ref (He.ma K (He.ga K x) "__init__")) = some (.type "function")) && xfB K (He.ga K x))))))))
structure ExcT (K : PySem.W.Frag) (C fI : Addr) (f : Str) : Prop where
  T : OexC K C
  no : PySem.W.findIn K (.ref C) f = some none
  iC : PySem.W.findIn K (.ref C) "__init__" = some (some (.ref fI))
  tI : PySem.W.typeIn K (.ref fI) = some (.type "function")
  xf : XfC K C
theorem excB_ok {K : PySem.W.Frag} {x f : Str} (h : excB K x f = true) : ExcT K (He.ga K x) (He.ma K (He.ga K x) "__init__") f := by
  unfold excB at h
  simp only [Bool.and_eq_true, decide_eq_true_eq] at h
  obtain ⟨h1, h2, h3, h4, h5, h6, h7, h8, h9⟩ := h
  refine ⟨⟨?_, h2, h3, h4, h5⟩, h6, h7, h8, xfB_ok h9⟩
  unfold oexB at h1
  split at h1
  · rename_i dd cd sl ho
    split at h1
    · rename_i C' bm k0 k1 k2 k3 n k5 hm hs
      simp only [Bool.and_eq_true, beq_iff_eq, Bool.not_eq_true'] at h1
      obtain ⟨e1, e2, hdel, hdict, ht⟩ := h1
      subst e1
      subst e2
      obtain ⟨nm, bs, mro, ns, qn, hd, sn, sub, ab, col, del⟩ := cd
      dsimp only at hm hdel hdict
      subst hm hdel hdict
      have hsl : sl = #[k0, k1, k2, k3, some (.builtin "ValueError.__new__"), k5] := by
        obtain ⟨l⟩ := sl
        simp only at hs
        rw [hs]
      subst hsl
      exact ⟨nm, qn, ns, bs, bm, sn, sub, ab, col, dd, k0, k1, k2, k3, k5, ho, ht⟩
    · cases h1
  · cases h1
section
variable {P : Program} {w : World} {K : PySem.W.Frag} {mg : Str → Option Value} {base : Heap} {x qual f : Str} {st : Stmt} {C fI : Addr} {fd : FuncData} {k : Nat} {c : Cn}
theorem init_ok (T : ExcT K C fI f) (Fn : Fun K "__init__" qual st fI fd) (S : FnScope ["self", f] ["self", f] (defScope st))
    (hbody : ∀ (cdv : Value) (A : Around) (outer : List Env) (s : Shared) (H : Hp) (E : XK), PSs (cxOf (L2.CX P w) P w K mg base ["self", f] qual (defScope st) fI cdv A outer s H E) (defBody st) (tOst K f (tVar 0) (tVar 1))) : FnOk P w K mg base (L2.CX P w) (k + 1) fI fd ["self", f] (spInit C f) :=
  Fn.okX S (fun vs H Q E h => by obtain ⟨a, y, rfl, _⟩ := h; rfl) fun cdv A outer s H vs Q E hr h => by
    refine ⟨_, hbody cdv A outer s H E, ?_⟩
    obtain ⟨a, y, rfl, ha, q⟩ := h
    exact ⟨y, rfl, .ref a, rfl, a, C, rfl, T.T, T.no, .inl ⟨ha, fun dx h1 h2 => q dx h1 h2⟩⟩
/-- one class, number j -/
theorem ec_ok {j : Nat} (hc : c.K = K) (hC : c.cA j = C) (T : ExcT K C fI f) (gC : mg x = some (.ref C)) (F : FnOk P w K mg base (L2.CX P w) k fI fd ["self", f] (spInit C f)) (hb : Binds K fd ["self", f] []) : Ec P w K mg base c k x j f := by
  subst hC
  exact ⟨gC, T.T, fI, fd, ["self", f], rfl, T.iC, T.tI, F, hb⟩
end
def hdsOk (n : Nat) (hs : List Hd) : Bool := hs.all fun h => match h.i with
  | some i => decide (i < n)
  | none => match h.b with
    | .many l => l.all fun s => match s with
      | .c _ => true
      | .f _ => false
    | .one _ => true
theorem hdsOk_ok {n : Nat} {hs : List Hd} (h : hdsOk n hs = true) : ∀ h ∈ hs, ∀ l, h.b = .many l → (∃ x, SI.f x ∈ l) → ∃ i, h.i = some i ∧ i < n := fun x hx l hl ⟨y, hy⟩ => by
  have q := List.all_eq_true.mp h x hx
  cases e : x.i with
  | some i => rw [e] at q; exact ⟨i, rfl, of_decide_eq_true q⟩
  | none =>
    rw [e, hl] at q
    have q2 := List.all_eq_true.mp q _ hy
    cases q2
end VL

set_option Elab.async false
set_option linter.all false
set_option maxRecDepth 100000
set_option maxHeartbeats 1000000
/-! VL, part 18: how mirrors compute. -/
namespace VL
open PySem PySem.Spec PyProof.Rows L2
/-- a program's rest, kept from simp: only the first part is computed, then the rest -/
class Kt (ε α β : Type) where
  f : α → Wp ε β
def bindI {ε α β : Type} (m : Wp ε α) [k : Kt ε α β] : Wp ε β := m.bind k.f
@[simp ↓] theorem bind_I {ε α β : Type} (m : Wp ε α) (f : α → Wp ε β) : m.bind f = @bindI _ _ _ m ⟨f⟩ := (rfl)
@[simp] theorem bindI_ret {ε α β : Type} (a : α) (f : α → Wp ε β) : @bindI _ _ _ (.ret a) ⟨f⟩ = f a := (rfl)
@[simp] theorem bindI_stuck {ε α β : Type} (f : α → Wp ε β) : @bindI _ _ _ (.stuck) ⟨f⟩ = .stuck := (rfl)
@[simp] theorem bindI_raise {ε α β : Type} (e : ε) (f : α → Wp ε β) : @bindI _ _ _ (.raise e) ⟨f⟩ = .raise e := (rfl)
@[simp] theorem bindI_bindI {ε α β γ : Type} (m : Wp ε α) (f : α → Wp ε β) (g : β → Wp ε γ) : @bindI _ _ _ (@bindI _ _ _ m ⟨f⟩) ⟨g⟩ = @bindI _ _ _ m ⟨fun a => (f a).bind g⟩ := (rfl)
@[simp] theorem bindI_rets {ε α : Type} (m : Wp ε α) : @bindI _ _ _ m ⟨Wp.ret⟩ = m := (rfl)
@[simp] theorem run_bindI {ε α β : Type} (m : Wp ε α) (f : α → Wp ε β) (K : β → Prop) (E : ε → Prop) : (@bindI _ _ _ m ⟨f⟩).run K E = m.run (fun a => (f a).run K E) E := (rfl)
@[simp] theorem mapE_bindI {ε ε' α β : Type} (g : ε → ε') (m : Wp ε α) (f : α → Wp ε β) : (@bindI _ _ _ m ⟨f⟩).mapE g = @bindI _ _ _ (m.mapE g) ⟨fun a => (f a).mapE g⟩ := (rfl)
@[simp] theorem noE_bindI {ε ε' α β : Type} (m : Wp ε α) (f : α → Wp ε β) : (noE (@bindI _ _ _ m ⟨f⟩) : Wp ε' β) = @bindI _ _ _ (noE m) ⟨fun a => noE (f a)⟩ := (rfl)
@[simp] theorem noEx_bindI {α β : Type} (m : Wp XE' α) (f : α → Wp XE' β) : noEx (@bindI _ _ _ m ⟨f⟩) = @bindI _ _ _ (noEx m) ⟨fun a => noEx (f a)⟩ := (rfl)
section
variable {g h : GE} {t u : GT} {a b : GS} {ρ : Env'} {i j : Nat} {v : PV} {gl : GL} {ga : GA} {gi : GI} {m : GF} {f1 : PV → Option PV} {f2 : PV → PV → Option PV} {lo hi : GO}
@[simp] theorem c_eC : eC v ρ = .ret (v, ρ) := (rfl)
theorem c_eVar (e : ρ[i]? = some (.fz v)) : eVar i ρ = .ret (v, ρ) := by unfold eVar; rw [e]
@[simp] theorem c_eVar' : eVar i ρ = (match ρ[i]? with | some (.fz v) => .ret (v, ρ) | _ => .stuck) := (rfl)
@[simp] theorem c_eOp1 : eOp1 f1 g ρ = (g ρ).bind fun a => lift (f1 a.1) a.2 := (rfl)
@[simp] theorem c_eOp2 : eOp2 f2 g h ρ = (g ρ).bind fun a => (h a.2).bind fun b => lift (f2 a.1 b.1) b.2 := (rfl)
@[simp] theorem c_eAnd : eAnd g h ρ = (g ρ).bind fun a => match a.1 with | .bl true => h a.2 | .bl false => .ret (.bl false, a.2) | _ => .stuck := (rfl)
@[simp] theorem c_eOr : eOr g h ρ = (g ρ).bind fun a => match a.1 with | .bl false => h a.2 | .bl true => .ret (.bl true, a.2) | _ => .stuck := (rfl)
@[simp] theorem c_eNot : eNot g ρ = (g ρ).bind fun a => match a.1 with | .bl b => .ret (.bl (!b), a.2) | _ => .stuck := (rfl)
@[simp] theorem c_eIf : eIf t g h ρ = (t ρ).bind fun a => if a.1 = true then g a.2 else h a.2 := (rfl)
@[simp] theorem c_gVal : gVal g ρ = (g ρ).bind fun a => match truth a.1 with | some b => .ret (b, a.2) | none => .stuck := (rfl)
@[simp] theorem c_gBl : gBl g ρ = (g ρ).bind fun a => match a.1 with | .bl b => .ret (b, a.2) | _ => .stuck := (rfl)
@[simp] theorem c_gAnd : gAnd t u ρ = (t ρ).bind fun a => if a.1 = true then u a.2 else .ret (false, a.2) := (rfl)
@[simp] theorem c_gOr : gOr t u ρ = (t ρ).bind fun a => if a.1 = true then .ret (true, a.2) else u a.2 := (rfl)
@[simp] theorem c_gNot : gNot t ρ = (t ρ).bind fun a => .ret (!a.1, a.2) := (rfl)
@[simp] theorem c_gYes : gYes ρ = .ret (true, ρ) := (rfl)
@[simp] theorem c_aNil : aNil ρ = .ret ([], ρ) := (rfl)
@[simp] theorem c_aCons : aCons g ga ρ = (g ρ).bind fun a => (ga a.2).bind fun b => .ret (a.1 :: b.1, b.2) := (rfl)
@[simp] theorem c_eTup : eTup ga ρ = (ga ρ).bind fun a => if a.1.length ≤ sizeLine then .ret (.tup a.1, a.2) else .stuck := (rfl)
@[simp] theorem c_eLst : eLst gl ρ = (gl ρ).bind fun a => .ret (.lst none a.1, a.2) := (rfl)
@[simp] theorem c_lDisp : lDisp ga ρ = (ga ρ).bind fun a => if a.1.length ≤ sizeLine then .ret a else .stuck := (rfl)
@[simp] theorem c_oNone : oNone ρ = .ret (none, ρ) := (rfl)
@[simp] theorem c_oSome : oSome g ρ = (g ρ).bind fun a => match a.1 with | .int i => .ret (some i, a.2) | _ => .stuck := (rfl)
@[simp] theorem c_eSl {f : PV → Option Int → Option Int → Option PV} : eSl f g lo hi ρ = (g ρ).bind fun a => (lo a.2).bind fun i => (hi i.2).bind fun j => lift (f a.1 i.1 j.1) j.2 := (rfl)
@[simp] theorem c_eCall : eCall m ga ρ = (ga ρ).bind fun a => ((m (fzs a.1)).mapE fun e => (e.1, a.2)).bind fun r => .ret (r.1, a.2) := (rfl)
@[simp] theorem c_eStrM : eStrM f2 g h ρ = (g ρ).bind fun a => if isStr a.1 = true then (h a.2).bind fun b => lift (f2 a.1 b.1) b.2 else .stuck := (rfl)
@[simp] theorem c_lStrM {f : PV → PV → Option (List PV)} : lStrM f g h ρ = (g ρ).bind fun a => if isStr a.1 = true then (h a.2).bind fun b => lift' (f a.1 b.1) b.2 else .stuck := (rfl)
@[simp] theorem c_lOp1 {f : PV → Option (List PV)} : lOp1 f g ρ = (g ρ).bind fun a => lift' (f a.1) a.2 := (rfl)
@[simp] theorem c_eIxO : eIxO i g ρ = if ownAt ρ i = true then (g ρ).bind fun a => match a.2[i]? with | some (.ow xs) => lift (pIx (.lst none xs) a.1) a.2 | _ => .stuck else .stuck := (rfl)
@[simp] theorem c_sSeq : sSeq a b ρ = (a ρ).bind fun o => match o with | .nx ρ1 => b ρ1 | .th none _ => .stuck | o => .ret o := (rfl)
@[simp] theorem c_sNil : sNil ρ = .ret (.nx ρ) := (rfl)
@[simp] theorem c_sSet : sSet i g ρ = (g ρ).bind fun a => .ret (.nx (a.2.set i (.fz a.1))) := (rfl)
@[simp] theorem c_sOwn : sOwn i gl ρ = (gl ρ).bind fun a => .ret (.nx (a.2.set i (.ow a.1))) := (rfl)
@[simp] theorem c_sRet : sRet g ρ = (g ρ).bind fun a => .ret (.rt a.1 a.2) := (rfl)
@[simp] theorem c_sIf : sIf t a b ρ = (t ρ).bind fun c => if c.1 = true then a c.2 else b c.2 := (rfl)
@[simp] theorem c_sPutO {k : GE} : sPutO i k g ρ = (g ρ).bind fun v => if ownAt v.2 i = true then (k v.2).bind fun k => match k.2[i]? with
  | some (.ow xs) => match k.1 with
    | .int z => match ixN xs.length z with
      | some j => .ret (.nx (k.2.set i (.ow (xs.set j v.1))))
      | none => .stuck
    | _ => .stuck
  | _ => .stuck
  else .stuck := (rfl)
@[simp] theorem c_sAppO : sAppO i g ρ = if ownAt ρ i = true then (g ρ).bind fun a => match a.2[i]? with
  | some (.ow xs) => if xs.length < sizeLine then .ret (.nx (a.2.set i (.ow (xs ++ [a.1])))) else .stuck
  | _ => .stuck
  else .stuck := (rfl)
@[simp] theorem c_sRaise {k : Nat} {f : Str} : sRaise k f g ρ = (g ρ).bind fun a => .raise (⟨k, [(f, a.1)]⟩, a.2) := (rfl)
@[simp] theorem c_iSeq : iSeq g ρ = (g ρ).bind fun a => lift' (items a.1) a.2 := (rfl)
@[simp] theorem c_iRng : iRng g ρ = (g ρ).bind fun a => lift' (iRange a.1) a.2 := (rfl)
@[simp] theorem c_sFor {f : GG} : sFor f gi a ρ = (gi ρ).bind fun x => forLoop f a x.1 x.2 := (rfl)
@[simp] theorem c_sPub : sPub i a ρ = (match ρ[i]? with | some (.ow xs) => a (ρ.set i (.fz (.lst none xs))) | _ => .stuck) := (rfl)
@[simp] theorem sl_le {n : Nat} (h : n ≤ 16777216) : n ≤ sizeLine := by rw [sizeLine_eq]; exact h
@[simp] theorem c_eCallB {k : Nat} : eCallB m k ga ρ = (if ownAt ρ k = true then (ga ρ).bind fun a => boxCall m k a.1 a.2 else .stuck) := (rfl)
end
theorem fnV_eq {n : Nat} {pn : Nat → Bool} {g : GS} {ss : List SV} (h : pinned pn ss = true) : fnV n pn g ss = ((g (ss ++ List.replicate (n - ss.length) .un)).mapE fun e => (e.1, outs ss e.2)).bind fun o => match o with
  | .nx ρ => .ret (.non, outs ss ρ)
  | .rt v ρ => .ret (v, outs ss ρ)
  | _ => .stuck := by unfold fnV; rw [if_pos h] <;> rfl
end VL

set_option Elab.async false
set_option linter.all false
set_option maxRecDepth 100000
set_option maxHeartbeats 1000000
/-! VL, part 19: comprehensions without effects; the law's comparison. -/
namespace VL
open PySem PySem.Spec PyProof.Rows L2

/-! ### which built-in class is which -/
@[simp] theorem kb_NoneType_bool : kitB "NoneType" "bool" = some false := by decide +kernel
@[simp] theorem kb_NoneType_int : kitB "NoneType" "int" = some false := by decide +kernel
@[simp] theorem kb_NoneType_str : kitB "NoneType" "str" = some false := by decide +kernel
@[simp] theorem kb_NoneType_tuple : kitB "NoneType" "tuple" = some false := by decide +kernel
@[simp] theorem kb_NoneType_list : kitB "NoneType" "list" = some false := by decide +kernel
@[simp] theorem kb_NoneType_dict : kitB "NoneType" "dict" = some false := by decide +kernel
@[simp] theorem kb_bool_bool : kitB "bool" "bool" = some true := by decide +kernel
@[simp] theorem kb_bool_int : kitB "bool" "int" = some true := by decide +kernel
@[simp] theorem kb_bool_str : kitB "bool" "str" = some false := by decide +kernel
@[simp] theorem kb_bool_tuple : kitB "bool" "tuple" = some false := by decide +kernel
@[simp] theorem kb_bool_list : kitB "bool" "list" = some false := by decide +kernel
@[simp] theorem kb_bool_dict : kitB "bool" "dict" = some false := by decide +kernel
@[simp] theorem kb_int_bool : kitB "int" "bool" = some false := by decide +kernel
@[simp] theorem kb_int_int : kitB "int" "int" = some true := by decide +kernel
@[simp] theorem kb_int_str : kitB "int" "str" = some false := by decide +kernel
@[simp] theorem kb_int_tuple : kitB "int" "tuple" = some false := by decide +kernel
@[simp] theorem kb_int_list : kitB "int" "list" = some false := by decide +kernel
@[simp] theorem kb_int_dict : kitB "int" "dict" = some false := by decide +kernel
@[simp] theorem kb_str_bool : kitB "str" "bool" = some false := by decide +kernel
@[simp] theorem kb_str_int : kitB "str" "int" = some false := by decide +kernel
@[simp] theorem kb_str_str : kitB "str" "str" = some true := by decide +kernel
@[simp] theorem kb_str_tuple : kitB "str" "tuple" = some false := by decide +kernel
@[simp] theorem kb_str_list : kitB "str" "list" = some false := by decide +kernel
@[simp] theorem kb_str_dict : kitB "str" "dict" = some false := by decide +kernel
@[simp] theorem kb_tuple_bool : kitB "tuple" "bool" = some false := by decide +kernel
@[simp] theorem kb_tuple_int : kitB "tuple" "int" = some false := by decide +kernel
@[simp] theorem kb_tuple_str : kitB "tuple" "str" = some false := by decide +kernel
@[simp] theorem kb_tuple_tuple : kitB "tuple" "tuple" = some true := by decide +kernel
@[simp] theorem kb_tuple_list : kitB "tuple" "list" = some false := by decide +kernel
@[simp] theorem kb_tuple_dict : kitB "tuple" "dict" = some false := by decide +kernel
@[simp] theorem kb_list_bool : kitB "list" "bool" = some false := by decide +kernel
@[simp] theorem kb_list_int : kitB "list" "int" = some false := by decide +kernel
@[simp] theorem kb_list_str : kitB "list" "str" = some false := by decide +kernel
@[simp] theorem kb_list_tuple : kitB "list" "tuple" = some false := by decide +kernel
@[simp] theorem kb_list_list : kitB "list" "list" = some true := by decide +kernel
@[simp] theorem kb_list_dict : kitB "list" "dict" = some false := by decide +kernel
@[simp] theorem kb_dict_bool : kitB "dict" "bool" = some false := by decide +kernel
@[simp] theorem kb_dict_int : kitB "dict" "int" = some false := by decide +kernel
@[simp] theorem kb_dict_str : kitB "dict" "str" = some false := by decide +kernel
@[simp] theorem kb_dict_tuple : kitB "dict" "tuple" = some false := by decide +kernel
@[simp] theorem kb_dict_list : kitB "dict" "list" = some false := by decide +kernel
@[simp] theorem kb_dict_dict : kitB "dict" "dict" = some true := by decide +kernel
theorem lcLoop_pure {i : Nat} {gt : GT} {ge : GE} {p : PV → Bool} {f : PV → PV} {ρ : Env'} : ∀ (xs : List PV) (ρ1 : Env'), (ρ1 = ρ ∨ ∃ y, ρ1 = ρ.set i (.fz y)) →
    (∀ x ∈ xs, gt (ρ.set i (.fz x)) = .ret (p x, ρ.set i (.fz x)) ∧ (p x = true → ge (ρ.set i (.fz x)) = .ret (f x, ρ.set i (.fz x)))) →
    ∃ ρ', (ρ' = ρ ∨ ∃ y, ρ' = ρ.set i (.fz y)) ∧ lcLoop [i] (gN i) gt ge xs ρ1 = .ret ((xs.filter p).map f, ρ')
  | [], ρ1, h, _ => ⟨ρ1, h, rfl⟩
  | x :: xs, ρ1, h, hx => by
    have e : gN i x (wipeE ρ1 [i]) = some (ρ.set i (.fz x)) := by
      unfold gN wipeE wipeE
      rcases h with rfl | ⟨y, rfl⟩
      · rw [List.set_set]
      · rw [List.set_set, List.set_set]
    obtain ⟨h1, h2⟩ := hx x List.mem_cons_self
    obtain ⟨ρ', a, b⟩ := lcLoop_pure xs (ρ.set i (.fz x)) (.inr ⟨x, rfl⟩) fun y hy => hx y (List.mem_cons_of_mem _ hy)
    refine ⟨ρ', a, ?_⟩
    unfold lcLoop
    rw [e]
    simp only [h1, Wp.ret_bind]
    cases hp : p x with
    | true =>
      simp only [if_true, h2 hp, Wp.ret_bind, b, List.filter_cons, hp, List.map_cons]
    | false =>
      simp only [Bool.false_eq_true, if_false, b, List.filter_cons, hp]
theorem backE_one {i : Nat} {ρ ρ' : Env'} (h : ρ' = ρ ∨ ∃ y, ρ' = ρ.set i (.fz y)) (ho : ownAt ρ i = false) : backE ρ' ρ [i] = ρ := by
  unfold backE backE
  cases e : ρ[i]? with
  | none =>
    have hl : ρ.length ≤ i := by rwa [List.getElem?_eq_none_iff] at e
    rcases h with rfl | ⟨y, rfl⟩
    · rw [List.set_eq_of_length_le hl]
    · rw [List.set_set, List.set_eq_of_length_le hl]
  | some s =>
    have hi : i < ρ.length := (List.getElem?_eq_some_iff.mp e).1
    have es : ρ[i] = s := (List.getElem?_eq_some_iff.mp e).2
    have key : (match some s with | some (.fz x) => SV.fz x | _ => .un) = s := by
      cases s with
      | un => rfl
      | fz v => rfl
      | ow xs => unfold ownAt at ho; rw [e] at ho; cases ho
      | bx n => unfold ownAt at ho; rw [e] at ho; cases ho
    have back : ρ.set i s = ρ := by rw [← es]; exact List.set_getElem_self hi
    rcases h with rfl | ⟨y, rfl⟩
    · exact (congrArg (ρ'.set i) key).trans back
    · rw [List.set_set]
      exact (congrArg (ρ.set i) key).trans back
/-- a comprehension over i without effects -/
theorem lLc_pure {i : Nat} {gi : GI} {gt : GT} {ge : GE} {ρ : Env'} {xs : List PV} (p : PV → Bool) (f : PV → PV) (hi : gi ρ = .ret (xs, ρ)) (hz : xs.length ≤ sizeLine) (ho : ownAt ρ i = false)
    (hx : ∀ x ∈ xs, gt (ρ.set i (.fz x)) = .ret (p x, ρ.set i (.fz x)) ∧ (p x = true → ge (ρ.set i (.fz x)) = .ret (f x, ρ.set i (.fz x)))) : lLc [i] gi (gN i) gt ge ρ = .ret ((xs.filter p).map f, ρ) := by
  obtain ⟨ρ', a, b⟩ := lcLoop_pure (p := p) (f := f) xs ρ (.inl rfl) hx
  unfold lLc
  rw [hi]
  simp only [Wp.ret_bind]
  have fr : frozenAt ρ [i] = true := by unfold frozenAt; simp [ho]
  rw [if_pos ⟨hz, fr⟩, b]
  simp only [noEx_ret, Wp.ret_bind]
  rw [backE_one a ho]
theorem filter_none {α : Type} {p : α → Bool} : ∀ {xs : List α}, (∀ x ∈ xs, p x = false) → xs.filter p = []
  | [], _ => rfl
  | x :: xs, h => by rw [List.filter_cons, h x List.mem_cons_self]; exact filter_none fun y hy => h y (List.mem_cons_of_mem _ hy)
theorem filter_all {α : Type} {p : α → Bool} : ∀ {xs : List α}, (∀ x ∈ xs, p x = true) → xs.filter p = xs
  | [], _ => rfl
  | x :: xs, h => by rw [List.filter_cons, h x List.mem_cons_self]; exact congrArg (x :: ·) (filter_all fun y hy => h y (List.mem_cons_of_mem _ hy))
/-- .. as a map -/
theorem lLc_map {i : Nat} {gi : GI} {ge : GE} {ρ : Env'} {xs : List PV} (f : PV → PV) (hi : gi ρ = .ret (xs, ρ)) (hz : xs.length ≤ sizeLine) (ho : ownAt ρ i = false)
    (hx : ∀ x ∈ xs, ge (ρ.set i (.fz x)) = .ret (f x, ρ.set i (.fz x))) : lLc [i] gi (gN i) gYes ge ρ = .ret (xs.map f, ρ) := by
  have q := lLc_pure (gt := gYes) (ge := ge) (fun _ => true) f hi hz ho fun x hm => ⟨rfl, fun _ => hx x hm⟩
  rw [q, filter_all fun _ _ => rfl]

/-! ### the law's comparison, the same in all laws -/
def bSame (m : GF) : GS := sSeq (sIf (gOr (gBl (eOp2 pIs (eVar 1) (eC .non))) (gVal (eOp1 (pIsi "bool") (eVar 1)))) (sRet (eIf (gBl (eOp2 pIs (eVar 1) (eC .non))) (eOp2 pIs (eVar 0) (eC .non)) (eAnd (eOp1 (pIsi "bool") (eVar 0)) (eOp2 pEq (eOp2 pIs (eVar 0) (eC (.bl true))) (eOp2 pIs (eVar 1) (eC (.bl true))))))) (sNil)) (sSeq (sIf (gVal (eOp1 (pIsi "int") (eVar 1))) (sRet (eAnd (eOp1 (pIsi "int") (eVar 0)) (eAnd (eNot (eOp1 (pIsi "bool") (eVar 0))) (eOp2 pEq (eOp2 pSub (eOp1 pInt (eVar 0)) (eVar 1)) (eC (.int 0)))))) (sNil)) (sSeq (sIf (gVal (eOp1 (pIsi "str") (eVar 1))) (sRet (eAnd (eOp1 (pIsi "str") (eVar 0)) (eAnd (eOp2 pEq (eOp1 pLen (eVar 0)) (eOp1 pLen (eVar 1))) (eOp2 pEq (eLst (lLc [2] (iRng (eOp1 pLen (eVar 1))) (gN 2) (gBl (eOp2 pNe (eSl pSl (eVar 0) (oSome (eVar 2)) (oSome (eOp2 pAdd (eVar 2) (eC (.int 1))))) (eOp2 pIx (eVar 1) (eVar 2)))) (eVar 2))) (eLst (lDisp (aNil))))))) (sNil)) (sSeq (sIf (gOr (gBl (eOp2 pNe (eOp1 (pIsi "list") (eVar 0)) (eOp1 (pIsi "list") (eVar 1)))) (gBl (eOp2 pNe (eOp1 (pIsi "tuple") (eVar 0)) (eOp1 (pIsi "tuple") (eVar 1))))) (sRet (eC (.bl false))) (sNil)) (sRet (eAnd (eOp2 pEq (eOp1 pLen (eVar 0)) (eOp1 pLen (eVar 1))) (eOp2 pEq (eLst (lLc [2] (iRng (eOp1 pLen (eVar 1))) (gN 2) (gNot (gVal (eCall m (aCons (eOp2 pIx (eVar 0) (eVar 2)) (aCons (eOp2 pIx (eVar 1) (eVar 2)) (aNil)))))) (eVar 2))) (eLst (lDisp (aNil)))))))))
def mSame : Nat → GF
  | 0 => fNo
  | n + 1 => fnV 3 noPin (bSame (mSame n))
/-- both are the same tree, tags apart -/
inductive Sm : Nat → PV → PV → Prop
  | non {n} : Sm (n + 1) .non .non
  | bl {n} (b : Bool) : Sm (n + 1) (.bl b) (.bl b)
  | int {n} (i : Int) : Sm (n + 1) (.int i) (.int i)
  | str {n} (x : Str) (h : x.length ≤ sizeLine) : Sm (n + 1) (.str x) (.str x)
  | tup {n} {xs ys : List PV} (hl : xs.length = ys.length) (hz : xs.length ≤ sizeLine) (h : ∀ (i : Nat) (x y : PV), xs[i]? = some x → ys[i]? = some y → Sm n x y) : Sm (n + 1) (.tup xs) (.tup ys)
  | lst {n} {g g' : Option Addr} {xs ys : List PV} (hl : xs.length = ys.length) (hz : xs.length ≤ sizeLine) (h : ∀ (i : Nat) (x y : PV), xs[i]? = some x → ys[i]? = some y → Sm n x y) : Sm (n + 1) (.lst g xs) (.lst g' ys)
theorem eqB_nil : eqB (.lst none []) (.lst none []) = some true := by decide +kernel
@[simp] theorem pEq_nil : pEq (.lst none []) (.lst none []) = some (.bl true) := by unfold pEq; rw [eqB_nil]; rfl
theorem range_sz {n : Nat} (h : n ≤ sizeLine) : -4611686018427387904 ≤ (n : Int) ∧ (n : Int) < 4611686018427387904 := by
  rw [sizeLine_eq] at h
  omega
/-! ### texts by their signs -/
abbrev S (l : List Nat) : Str := ⟨l.toArray⟩
theorem S_of (z : Str) : z = S z.cps.toList := rfl
theorem S_len (l : List Nat) : (S l).length = l.length := by simp [S, Str.length]
theorem S_list (l : List Nat) : (S l).cps.toList = l := rfl
theorem S_inj {a b : List Nat} (h : S a = S b) : a = b := congrArg (fun z : Str => z.cps.toList) h
theorem S_append (a b : List Nat) : S a ++ S b = S (a ++ b) := by
  show (⟨a.toArray ++ b.toArray⟩ : Str) = ⟨(a ++ b).toArray⟩
  rw [List.append_toArray]
theorem slice_nat (l : List Nat) {a b : Nat} (hab : a ≤ b) (hb : b ≤ l.length) : Txt.slice (S l) (some (a : Int)) (some (b : Int)) = S ((l.drop a).take (b - a)) :=
  StrLaws.sliceText_nat (S l) hab (by rw [S_len]; exact hb)
theorem slice_to (l : List Nat) {b : Nat} (hb : b ≤ l.length) : Txt.slice (S l) none (some (b : Int)) = S (l.take b) := by
  have q := StrLaws.sliceText_to (x := S l) (j := (b : Int)) ⟨by omega, by rw [S_list]; omega⟩
  have e : ((b : Int) - 0).toNat = b := by omega
  rw [e] at q
  exact q
theorem slice_from (l : List Nat) {a : Nat} (ha : a ≤ l.length) : Txt.slice (S l) (some (a : Int)) none = S (l.drop a) := by
  have q := StrLaws.sliceText_from (x := S l) (i := (a : Int)) ⟨by omega, by rw [S_list]; omega⟩
  rw [S_list] at q
  have e1 : ((a : Int)).toNat = a := by omega
  have e2 : ((l.length : Int) - (a : Int)).toNat = l.length - a := by omega
  rw [e1, e2, List.take_of_length_le (by rw [List.length_drop]; omega)] at q
  exact q
theorem slice_neg1 (l : List Nat) (h : 1 ≤ l.length) : Txt.slice (S l) none (some (-1)) = S (l.take (l.length - 1)) := by
  have q := StrLaws.sliceText_neg_hi (S l) none (j := -1) (by omega) (by rw [S_len]; omega)
  have e : (-1 : Int) + ((S l).length : Int) = ((l.length - 1 : Nat) : Int) := by rw [S_len]; omega
  rw [e] at q
  exact q.trans (slice_to l (by omega))
theorem slice_one {z : Str} {k : Nat} {d : Nat} (h : z.cps.toList[k]? = some d) (hz : z.length ≤ sizeLine) : pSl (.str z) (some k) (some (k + 1 : Int)) = some (.str ⟨#[d]⟩) := by
  show (if z.length ≤ sizeLine then some (PV.str (Txt.slice z (some k) (some (k + 1 : Int)))) else none) = _
  rw [if_pos hz]
  have hk := (List.getElem?_eq_some_iff.mp h)
  obtain ⟨hk, hd⟩ := hk
  have q := slice_nat z.cps.toList (a := k) (b := k + 1) (by omega) (by omega)
  have e : ((k + 1 : Nat) : Int) = (k : Int) + 1 := by omega
  rw [e] at q
  have q' : Txt.slice z (some (k : Int)) (some ((k : Int) + 1)) = S ((z.cps.toList.drop k).take (k + 1 - k)) := q
  rw [q', show k + 1 - k = 1 from by omega, List.drop_eq_getElem_cons hk, hd]
  rfl
theorem iRange_len {n : Nat} (h : n ≤ sizeLine) : iRange (.int n) = some ((List.range n).map fun (k : Nat) => PV.int k) := by
  have r := range_sz h
  unfold iRange
  dsimp only
  rw [if_pos (by omega), Int.toNat_natCast]
theorem mem_range_int {n : Nat} {y : PV} (h : y ∈ (List.range n).map fun (k : Nat) => PV.int k) : ∃ k : Nat, k < n ∧ y = .int k := by
  obtain ⟨k, h1, rfl⟩ := List.mem_map.mp h
  exact ⟨k, List.mem_range.mp h1, rfl⟩
theorem atI_nat' {α : Type} {xs : List α} {k : Nat} {x : α} (h : xs[k]? = some x) : atI xs (k : Int) = some x := by
  have hk : k < xs.length := (List.getElem?_eq_some_iff.mp h).1
  unfold atI ixN
  rw [if_pos (by omega), if_pos (by omega)]
  simpa using h
theorem atI_opt {α : Type} (xs : List α) (k : Nat) : atI xs (k : Int) = xs[k]? := by
  cases h : xs[k]? with
  | some x => exact atI_nat' h
  | none =>
    have hk : xs.length ≤ k := by rwa [List.getElem?_eq_none_iff] at h
    unfold atI ixN
    rw [if_pos (by omega), if_neg (by omega)]
    rfl
theorem same_seq {m : GF} {i : Nat} {xs ys : List PV} {a b : PV} (hl : xs.length = ys.length) (hz : xs.length ≤ sizeLine) (ha : ∀ k : Nat, pIx a (.int k) = xs[k]?) (hb : ∀ k : Nat, pIx b (.int k) = ys[k]?) (hlen : pLen b = some (.int ys.length))
    (h : ∀ (i : Nat) (x y : PV), xs[i]? = some x → ys[i]? = some y → m [.fz x, .fz y] = .ret (.bl true, [.un, .un])) :
    lLc [2] (iRng (eOp1 pLen (eVar 1))) (gN 2) (gNot (gVal (eCall m (aCons (eOp2 pIx (eVar 0) (eVar 2)) (aCons (eOp2 pIx (eVar 1) (eVar 2)) aNil))))) (eVar 2) [.fz a, .fz b, .un] = .ret ([], [.fz a, .fz b, .un]) := by
  have q := lLc_pure (i := 2) (ρ := [.fz a, .fz b, .un]) (gi := iRng (eOp1 pLen (eVar 1))) (gt := gNot (gVal (eCall m (aCons (eOp2 pIx (eVar 0) (eVar 2)) (aCons (eOp2 pIx (eVar 1) (eVar 2)) aNil))))) (ge := eVar 2)
    (xs := (List.range ys.length).map fun (k : Nat) => PV.int k) (fun _ => false) id (by simp [hlen, iRange_len (hl ▸ hz)]) (by simpa using hl ▸ hz) rfl (fun y hy => ⟨?_, fun z => nomatch z⟩)
  · rw [q, filter_none fun _ _ => rfl]
    rfl
  · obtain ⟨k, hk, rfl⟩ := mem_range_int hy
    have hkx : k < xs.length := by omega
    have e := h k xs[k] ys[k] (List.getElem?_eq_getElem hkx) (List.getElem?_eq_getElem hk)
    simp [ha, hb, List.getElem?_eq_getElem hkx, List.getElem?_eq_getElem hk, fzs, e, truth]
theorem same_ok : ∀ (n : Nat) (a b : PV), Sm n a b → mSame n [.fz a, .fz b] = .ret (.bl true, [.un, .un])
  | n + 1, _, _, .non => by
    show fnV 3 noPin _ _ = _
    rw [fnV_eq rfl]
    simp [bSame, pIs, outs, SV.own]
  | n + 1, _, _, .bl b => by
    show fnV 3 noPin _ _ = _
    rw [fnV_eq rfl]
    cases b <;> simp [bSame, pIs, pIsi, isT, tyN, truth, outs, SV.own, pEq, eqB]
  | n + 1, _, _, .int i => by
    show fnV 3 noPin _ _ = _
    rw [fnV_eq rfl]
    simp [bSame, pIs, pIsi, isT, tyN, truth, outs, SV.own, pEq, eqB, pInt, pSub]
  | n + 1, _, _, .str x h => by
    show fnV 3 noPin _ _ = _
    rw [fnV_eq rfl]
    have q := lLc_pure (i := 2) (ρ := [.fz (.str x), .fz (.str x), .un]) (gi := iRng (eOp1 pLen (eVar 1))) (gt := gBl (eOp2 pNe (eSl pSl (eVar 0) (oSome (eVar 2)) (oSome (eOp2 pAdd (eVar 2) (eC (.int 1))))) (eOp2 pIx (eVar 1) (eVar 2)))) (ge := eVar 2)
      (xs := (List.range x.length).map fun (k : Nat) => PV.int k) (fun _ => false) id (by simp [pLen, h, iRange_len h]) (by simpa using h) rfl (fun y hy => ⟨?_, fun z => nomatch z⟩)
    · rw [filter_none fun _ _ => rfl] at q
      have e1 : pEq (.int x.length) (.int x.length) = some (.bl true) := by simp [pEq, eqB]
      simp [bSame, pIs, pIsi, isT, tyN, truth, outs, SV.own, pLen, q, h, e1]
    · obtain ⟨k, hk, rfl⟩ := mem_range_int hy
      have hk' : k < x.cps.toList.length := by simpa [Str.length] using hk
      have e := List.getElem?_eq_getElem hk'
      have e1 := slice_one e h
      have e2 : pIx (.str x) (.int k) = some (.str ⟨#[x.cps.toList[k]]⟩) := by
        show (if x.length ≤ sizeLine then (atI x.cps.toList k).map fun k => PV.str ⟨#[k]⟩ else none) = _
        rw [if_pos h, atI_nat' e]
        rfl
      simp [pAdd, e1, e2, pNe, eqB]
  | n + 1, _, _, @Sm.tup _ xs ys hl hz h => by
    show fnV 3 noPin _ _ = _
    rw [fnV_eq rfl]
    have q := same_seq (m := mSame n) (i := 0) (a := .tup xs) (b := .tup ys) hl hz (fun k => ?_) (fun k => ?_) rfl (fun i x y h1 h2 => same_ok n x y (h i x y h1 h2))
    · have e1 : pEq (.int ys.length) (.int ys.length) = some (.bl true) := by simp [pEq, eqB]
      have e2 : pNe (.bl false) (.bl false) = some (.bl false) := by simp [pNe, eqB]
      have e3 : pNe (.bl true) (.bl true) = some (.bl false) := by simp [pNe, eqB]
      simp [bSame, pIs, pIsi, isT, tyN, truth, outs, SV.own, pLen, q, hl, e1, e2, e3]
    · exact atI_opt xs k
    · exact atI_opt ys k
  | n + 1, _, _, @Sm.lst _ g g' xs ys hl hz h => by
    show fnV 3 noPin _ _ = _
    rw [fnV_eq rfl]
    have q := same_seq (m := mSame n) (i := 0) (a := .lst g xs) (b := .lst g' ys) hl hz (fun k => ?_) (fun k => ?_) rfl (fun i x y h1 h2 => same_ok n x y (h i x y h1 h2))
    · have e1 : pEq (.int ys.length) (.int ys.length) = some (.bl true) := by simp [pEq, eqB]
      have e2 : pNe (.bl false) (.bl false) = some (.bl false) := by simp [pNe, eqB]
      have e3 : pNe (.bl true) (.bl true) = some (.bl false) := by simp [pNe, eqB]
      simp [bSame, pIs, pIsi, isT, tyN, truth, outs, SV.own, pLen, q, hl, e1, e2, e3]
    · exact atI_opt xs k
    · exact atI_opt ys k
/-- a list that has been handed over, seen again behind the change -/
theorem veryL_run (n k : Nat) (hk : k < sizeLine) : veryL (mSame (n + 1)) (VL0 k) = .ret (.bl true, VL0 k) := by
  have e := same_ok (n + 1) _ _ (.int (n := n) 7)
  have e1 : pEq (.int ((k : Int) + 1)) (.int ((k : Int) + 1)) = some (.bl true) := by simp [pEq, eqB]
  have e2 : atI (List.replicate k PV.any ++ [PV.int 7]) (-1) = some (.int 7) := by
    unfold atI ixN
    rw [if_neg (by omega), if_pos (by simp; omega)]
    have e3 : ((-1 : Int) + ((List.replicate k PV.any ++ [PV.int 7]).length : Int)).toNat = k := by
      rw [List.length_append, List.length_replicate, List.length_singleton]
      omega
    rw [e3]
    show (List.replicate k PV.any ++ [PV.int 7])[k]? = some (.int 7)
    rw [List.getElem?_append_right (by rw [List.length_replicate]; omega), List.length_replicate, Nat.sub_self]
    rfl
  simp [veryL, VL0, pIsi, isT, tyN, pLen, pNeg, pIx, fzs, e, e1, e2]
theorem veryD_run (n : Nat) : veryD (mSame (n + 1)) VD0 = .ret (.bl true, VD0) := by
  have e := same_ok (n + 1) _ _ (.int (n := n) 7)
  have e1 : pEq (.int 1) (.int 1) = some (.bl true) := by simp [pEq, eqB]
  have e2 : eDGet (eVar 0) (eC (.str "more")) VD0 = .ret (.int 7, VD0) := by
    simp [eDGet, VD0, keyP, VL.valP]
  simp [veryD, VD0] at e2 ⊢
  simp [pIsi, isT, tyN, pLen, e1, e2, fzs, e]
theorem very7_ok (n : Nat) : Very7 (mSame (n + 1)) := ⟨fun k K E hk h => by rw [veryL_run n k hk]; exact h, fun K E h => by rw [veryD_run n]; exact h⟩
end VL

set_option Elab.async false
set_option linter.all false
set_option maxRecDepth 100000
set_option maxHeartbeats 1000000
namespace k54
open PySem PySem.Spec PyProof.Rows L2 VL
def topS (i : Nat) : Stmt := PySem.Challenge.pw_nestedhands_k54_texts_of_rates.main.body.getD i (.Pass ⟨0, 0, 0, 0⟩)
def clsS (i j : Nat) : Stmt := match topS i with
  | .ClassDef _ _ _ b _ _ _ _ _ _ _ => b.getD j (.Pass ⟨0, 0, 0, 0⟩)
  | s => s
def t_SHOWN : List (Str × V) := [("+", .bl true), ("-", .bl false), ("?", .non)]
/-- which error is caught by which clause -/
def exT (k j : Nat) : Option Bool := match k, j with
  | 1, 0 => some true
  | 1, 1 => some true
  | 1, 2 => some false
  | 2, 0 => some true
  | 2, 1 => some false
  | 2, 2 => some true
  | _, _ => none
def eN : Nat → Str
  | 0 => "WireError"
  | 1 => "InvalidTable"
  | 2 => "InvalidText"
  | _ => "WireError"
abbrev s_is_tuple_of : Stmt := topS 5
abbrev s_is_row : Stmt := topS 10
abbrev s_is_table : Stmt := topS 11
abbrev s_char_of : Stmt := topS 12
abbrev s_rate_text : Stmt := topS 13
abbrev s_is_line : Stmt := topS 14
abbrev s_read_rates : Stmt := topS 15
abbrev s__law_cell : Stmt := topS 17
abbrev s__law_box : Stmt := topS 18
abbrev s__law_take : Stmt := topS 19
abbrev s__law_same : Stmt := topS 20
abbrev s__law_very : Stmt := topS 21
abbrev s__law_asked : Stmt := topS 22
abbrev s__law_is_table : Stmt := topS 23
abbrev s__law_text : Stmt := topS 24
abbrev s__law_read : Stmt := topS 25
abbrev s_law : Stmt := topS 26
abbrev s_InvalidTable : Stmt := clsS 2 0
abbrev s_InvalidText : Stmt := clsS 3 0
/-- what is told of the top -/
structure Txt (K : PySem.W.Frag) (w : World) (mg : Str → Option Value) : Prop where
  f_abs : mg "abs" = none
  f_all : mg "all" = none
  f_bool : mg "bool" = none
  f_dict : mg "dict" = none
  f_int : mg "int" = none
  f_isinstance : mg "isinstance" = none
  f_len : mg "len" = none
  f_list : mg "list" = none
  f_max : mg "max" = none
  f_min : mg "min" = none
  f_range : mg "range" = none
  f_str : mg "str" = none
  f_sum : mg "sum" = none
  f_tuple : mg "tuple" = none
  i_ROWS : ∃ t, mg "ROWS" = some (.int 4 t)
  i_CELLS : ∃ t, mg "CELLS" = some (.int 4 t)
  t_SHOWN : TabK K w mg "SHOWN" t_SHOWN
  d_is_tuple_of : Dh K mg "is_tuple_of" s_is_tuple_of
  d_is_row : Dh K mg "is_row" s_is_row
  d_is_table : Dh K mg "is_table" s_is_table
  d_char_of : Dh K mg "char_of" s_char_of
  d_rate_text : Dh K mg "rate_text" s_rate_text
  d_is_line : Dh K mg "is_line" s_is_line
  d_read_rates : Dh K mg "read_rates" s_read_rates
  d__law_cell : Dh K mg "_law_cell" s__law_cell
  d__law_box : Dh K mg "_law_box" s__law_box
  d__law_take : Dh K mg "_law_take" s__law_take
  d__law_same : Dh K mg "_law_same" s__law_same
  d__law_very : Dh K mg "_law_very" s__law_very
  d__law_asked : Dh K mg "_law_asked" s__law_asked
  d__law_is_table : Dh K mg "_law_is_table" s__law_is_table
  d__law_text : Dh K mg "_law_text" s__law_text
  d__law_read : Dh K mg "_law_read" s__law_read
  d_law : Dh K mg "law" s_law
  g_WireError : mg "WireError" = some (.ref (He.ga K "WireError"))
  g_InvalidTable : mg "InvalidTable" = some (.ref (He.ga K "InvalidTable"))
  g_InvalidText : mg "InvalidText" = some (.ref (He.ga K "InvalidText"))
  x_InvalidTable : ExcT K (He.ga K "InvalidTable") (He.ma K (He.ga K "InvalidTable") "__init__") "given"
  n_InvalidTable : ∃ fd, Fun K "__init__" "InvalidTable.__init__" s_InvalidTable (He.ma K (He.ga K "InvalidTable") "__init__") fd
  x_InvalidText : ExcT K (He.ga K "InvalidText") (He.ma K (He.ga K "InvalidText") "__init__") "given"
  n_InvalidText : ∃ fd, Fun K "__init__" "InvalidText.__init__" s_InvalidText (He.ma K (He.ga K "InvalidText") "__init__") fd
  em : ∀ k j b, exT k j = some b → PySem.W.exmOne K (.ref (He.ga K (eN k))) (.ref (He.ga K (eN j))) = some b
abbrev cc (K : PySem.W.Frag) (B : Addr → Prop) : Cn := ⟨K, fun k => He.ga K (eN k), B⟩
theorem Txt.exm {K : PySem.W.Frag} {w : World} {mg : Str → Option Value} {B : Addr → Prop} (T : Txt K w mg) : ExmOk (cc K B) exT := T.em
section
variable {P : Program} {w : World} {K : PySem.W.Frag} {mg : Str → Option Value} {base : Heap} {B : Addr → Prop}
theorem sc_InvalidTable : FnScope ["self", "given"] ["self", "given"] (defScope s_InvalidTable) := ⟨rfl, rfl, rfl, by decide +kernel, rfl, by decide +kernel, by decide +kernel⟩
theorem ec_InvalidTable (T : Txt K w mg) : Ec P w K mg base (cc K B) 1 "InvalidTable" 1 "given" := by
  obtain ⟨fd, Fn⟩ := T.n_InvalidTable
  exact ec_ok rfl rfl T.x_InvalidTable T.g_InvalidTable (init_ok T.x_InvalidTable Fn sc_InvalidTable fun cdv A outer s H E => pss_one (ps_ost (pv 0) (pv 1))) (Fn.binds fun _ _ _ _ _ _ us hl => match us, hl with | [_, _], _ => rfl)
theorem sc_InvalidText : FnScope ["self", "given"] ["self", "given"] (defScope s_InvalidText) := ⟨rfl, rfl, rfl, by decide +kernel, rfl, by decide +kernel, by decide +kernel⟩
theorem ec_InvalidText (T : Txt K w mg) : Ec P w K mg base (cc K B) 1 "InvalidText" 2 "given" := by
  obtain ⟨fd, Fn⟩ := T.n_InvalidText
  exact ec_ok rfl rfl T.x_InvalidText T.g_InvalidText (init_ok T.x_InvalidText Fn sc_InvalidText fun cdv A outer s H E => pss_one (ps_ost (pv 0) (pv 1))) (Fn.binds fun _ _ _ _ _ _ us hl => match us, hl with | [_, _], _ => rfl)
theorem sc_is_tuple_of : FnScope ["value", "many"] ["value", "many"] (defScope s_is_tuple_of) := ⟨rfl, rfl, rfl, by decide +kernel, rfl, by decide +kernel, by decide +kernel⟩
def b_is_tuple_of : GS := sRet (eAnd (eOp1 (pIsi "tuple") (eVar 0)) (eOp2 pEq (eOp1 pLen (eVar 0)) (eVar 1)))
def m_is_tuple_of : GF := fnV 2 noPin b_is_tuple_of
theorem fo_is_tuple_of (T : Txt K w mg)  : ∃ f fd, mg "is_tuple_of" = some (.ref f) ∧ FnOk P w K mg base (L2.CX P w) 1 f fd ["value", "many"] (SpV (cc K B) 2 m_is_tuple_of) ∧ Fun K "is_tuple_of" "is_tuple_of" s_is_tuple_of f fd := by
  obtain ⟨f, fd, hm, Fn⟩ := T.d_is_tuple_of
  exact ⟨f, fd, hm, fn_ok (c := cc K B) (N := ["value", "many"]) (pn := noPin) rfl Fn sc_is_tuple_of rfl (by decide) (fun cdv A outer s H E hr => vss_one (vs_ret (ve_and (ve_isi rfl rfl T.f_isinstance b_isinstance (ve_var (pv 0)) rfl T.f_tuple b_tuple) (ve_one (ve_cmp (op_eq2 (hu64 hr)) (o_eq rfl) rfl (ve_callB call_len2 (o_len rfl) rfl T.f_len b_len (ve_var (pv 0))) (ve_var (pv 1))))))), Fn⟩
theorem fv_is_tuple_of (T : Txt K w mg)  : Fv P w K mg base (cc K B) 1 "is_tuple_of" 2 m_is_tuple_of := by
  obtain ⟨f, fd, hm, ok, Fn⟩ := fo_is_tuple_of (P := P) (base := base) (B := B) T 
  exact ⟨f, fd, ["value", "many"], rfl, hm, ok, Fn.kp, Fn.binds fun _ _ _ _ _ _ us hl => match us, hl with | [_, _], _ => rfl⟩
theorem sc_is_row : FnScope ["value", "one"] ["value"] (defScope s_is_row) := ⟨rfl, rfl, rfl, by decide +kernel, rfl, by decide +kernel, by decide +kernel⟩
def b_is_row : GS := sRet (eAnd (eCall m_is_tuple_of (aCons (eVar 0) (aCons (eC (.int 4)) (aNil)))) (eOp1 pAll (eLst (lLc [1] (iSeq (eVar 0)) (gN 1) (gYes) (eOr (eOp2 pIs (eVar 1) (eC .non)) (eOp1 (pIsi "bool") (eVar 1)))))))
def m_is_row : GF := fnV 2 noPin b_is_row
theorem fo_is_row (T : Txt K w mg) (F_is_tuple_of : Fv P w K mg base (cc K B) 1 "is_tuple_of" 2 m_is_tuple_of) : ∃ f fd, mg "is_row" = some (.ref f) ∧ FnOk P w K mg base (L2.CX P w) 2 f fd ["value"] (SpV (cc K B) 1 m_is_row) ∧ Fun K "is_row" "is_row" s_is_row f fd := by
  obtain ⟨f, fd, hm, Fn⟩ := T.d_is_row
  exact ⟨f, fd, hm, fn_ok (c := cc K B) (N := ["value", "one"]) (pn := noPin) rfl Fn sc_is_row rfl (by decide) (fun cdv A outer s H E hr => vss_one (vs_ret (ve_and (ve_call F_is_tuple_of hr (by decide) rfl (takes_of rfl rfl rfl rfl) (va_cons (ve_var (pv 0)) (va_cons (ve_gint rfl T.i_CELLS) (va_nil)))) (ve_one (ve_callB (cr_all rfl) (o_all rfl) rfl T.f_all b_all (ve_lst (vl_lc rfl sc_is_row.nd (vi_seq rfl (ve_var (pv 0))) (blkOk_by (own := [("one", 1)]) (by kernel_rfl)) (fun _ _ _ _ _ => pg_name (i := 1) sc_is_row.nd rfl (by first | exact .inl rfl | exact .inr rfl)) (tg_name 1) (fun _ _ _ _ _ => vts_nil) (fun _ _ _ _ _ => ve_or (ve_cmp op_is2 o_is rfl (ve_var (pv 1)) (ve_non)) (ve_one (ve_isi rfl rfl T.f_isinstance b_isinstance (ve_var (pv 1)) rfl T.f_bool b_bool)))))))))), Fn⟩
theorem fv_is_row (T : Txt K w mg) (F_is_tuple_of : Fv P w K mg base (cc K B) 1 "is_tuple_of" 2 m_is_tuple_of) : Fv P w K mg base (cc K B) 2 "is_row" 1 m_is_row := by
  obtain ⟨f, fd, hm, ok, Fn⟩ := fo_is_row (P := P) (base := base) (B := B) T F_is_tuple_of
  exact ⟨f, fd, ["value"], rfl, hm, ok, Fn.kp, Fn.binds fun _ _ _ _ _ _ us hl => match us, hl with | [_], _ => rfl⟩
theorem sc_is_table : FnScope ["value", "row"] ["value"] (defScope s_is_table) := ⟨rfl, rfl, rfl, by decide +kernel, rfl, by decide +kernel, by decide +kernel⟩
def b_is_table : GS := sRet (eAnd (eCall m_is_tuple_of (aCons (eVar 0) (aCons (eC (.int 4)) (aNil)))) (eOp1 pAll (eLst (lLc [1] (iSeq (eVar 0)) (gN 1) (gYes) (eCall m_is_row (aCons (eVar 1) (aNil)))))))
def m_is_table : GF := fnV 2 noPin b_is_table
theorem fo_is_table (T : Txt K w mg) (F_is_tuple_of : Fv P w K mg base (cc K B) 1 "is_tuple_of" 2 m_is_tuple_of) (F_is_row : Fv P w K mg base (cc K B) 2 "is_row" 1 m_is_row) : ∃ f fd, mg "is_table" = some (.ref f) ∧ FnOk P w K mg base (L2.CX P w) 3 f fd ["value"] (SpV (cc K B) 1 m_is_table) ∧ Fun K "is_table" "is_table" s_is_table f fd := by
  obtain ⟨f, fd, hm, Fn⟩ := T.d_is_table
  exact ⟨f, fd, hm, fn_ok (c := cc K B) (N := ["value", "row"]) (pn := noPin) rfl Fn sc_is_table rfl (by decide) (fun cdv A outer s H E hr => vss_one (vs_ret (ve_and (ve_call F_is_tuple_of hr (by decide) rfl (takes_of rfl rfl rfl rfl) (va_cons (ve_var (pv 0)) (va_cons (ve_gint rfl T.i_ROWS) (va_nil)))) (ve_one (ve_callB (cr_all rfl) (o_all rfl) rfl T.f_all b_all (ve_lst (vl_lc rfl sc_is_table.nd (vi_seq rfl (ve_var (pv 0))) (blkOk_by (own := [("row", 1)]) (by kernel_rfl)) (fun _ _ _ _ _ => pg_name (i := 1) sc_is_table.nd rfl (by first | exact .inl rfl | exact .inr rfl)) (tg_name 1) (fun _ _ _ _ _ => vts_nil) (fun _ _ _ _ _ => ve_call F_is_row hr (by decide) rfl (takes_W0) (va_cons (ve_var (pv 1)) (va_nil)))))))))), Fn⟩
theorem fv_is_table (T : Txt K w mg) (F_is_tuple_of : Fv P w K mg base (cc K B) 1 "is_tuple_of" 2 m_is_tuple_of) (F_is_row : Fv P w K mg base (cc K B) 2 "is_row" 1 m_is_row) : Fv P w K mg base (cc K B) 3 "is_table" 1 m_is_table := by
  obtain ⟨f, fd, hm, ok, Fn⟩ := fo_is_table (P := P) (base := base) (B := B) T F_is_tuple_of F_is_row
  exact ⟨f, fd, ["value"], rfl, hm, ok, Fn.kp, Fn.binds fun _ _ _ _ _ _ us hl => match us, hl with | [_], _ => rfl⟩
theorem sc_char_of : FnScope ["value"] ["value"] (defScope s_char_of) := ⟨rfl, rfl, rfl, by decide +kernel, rfl, by decide +kernel, by decide +kernel⟩
def b_char_of : GS := sSeq (sIf (gBl (eOp2 pIs (eVar 0) (eC .non))) (sRet (eC (.str "?"))) (sNil)) (sRet (eIf (gVal (eVar 0)) (eC (.str "+")) (eC (.str "-"))))
def m_char_of : GF := fnV 1 noPin b_char_of
theorem fo_char_of (T : Txt K w mg)  : ∃ f fd, mg "char_of" = some (.ref f) ∧ FnOk P w K mg base (L2.CX P w) 1 f fd ["value"] (SpV (cc K B) 1 m_char_of) ∧ Fun K "char_of" "char_of" s_char_of f fd := by
  obtain ⟨f, fd, hm, Fn⟩ := T.d_char_of
  exact ⟨f, fd, hm, fn_ok (c := cc K B) (N := ["value"]) (pn := noPin) rfl Fn sc_char_of rfl (by decide) (fun cdv A outer s H E hr => vss_cons (vs_if (vt_cmp op_is2 o_is rfl (ve_var (pv 0)) (ve_non)) (vss_one (vs_ret (ve_str))) (vss_nil)) (vss_one (vs_ret (ve_if (vt_val rfl (ve_var (pv 0))) (ve_str) (ve_str))))), Fn⟩
theorem fv_char_of (T : Txt K w mg)  : Fv P w K mg base (cc K B) 1 "char_of" 1 m_char_of := by
  obtain ⟨f, fd, hm, ok, Fn⟩ := fo_char_of (P := P) (base := base) (B := B) T 
  exact ⟨f, fd, ["value"], rfl, hm, ok, Fn.kp, Fn.binds fun _ _ _ _ _ _ us hl => match us, hl with | [_], _ => rfl⟩
theorem sc_rate_text : FnScope ["table", "row", "one"] ["table"] (defScope s_rate_text) := ⟨rfl, rfl, rfl, by decide +kernel, rfl, by decide +kernel, by decide +kernel⟩
def b_rate_text : GS := sSeq (sIf (gNot (gVal (eCall m_is_table (aCons (eVar 0) (aNil))))) (sRaise 1 "given" (eVar 0)) (sNil)) (sRet (eStrM pJoin (eC (.str "")) (eLst (lLc [1] (iSeq (eVar 0)) (gN 1) (gYes) (eOp2 pAdd (eStrM pJoin (eC (.str "")) (eLst (lLc [2] (iSeq (eVar 1)) (gN 2) (gYes) (eCall m_char_of (aCons (eVar 2) (aNil)))))) (eC (.str "\n")))))))
def m_rate_text : GF := fnV 3 noPin b_rate_text
theorem fo_rate_text (T : Txt K w mg) (F_is_table : Fv P w K mg base (cc K B) 3 "is_table" 1 m_is_table) (X_InvalidTable : Ec P w K mg base (cc K B) 1 "InvalidTable" 1 "given") (F_char_of : Fv P w K mg base (cc K B) 1 "char_of" 1 m_char_of) : ∃ f fd, mg "rate_text" = some (.ref f) ∧ FnOk P w K mg base (L2.CX P w) 4 f fd ["table"] (SpV (cc K B) 1 m_rate_text) ∧ Fun K "rate_text" "rate_text" s_rate_text f fd := by
  obtain ⟨f, fd, hm, Fn⟩ := T.d_rate_text
  exact ⟨f, fd, hm, fn_ok (c := cc K B) (N := ["table", "row", "one"]) (pn := noPin) rfl Fn sc_rate_text rfl (by decide) (fun cdv A outer s H E hr => vss_cons (vs_if (vt_not (vt_val rfl (ve_call F_is_table hr (by decide) rfl (takes_of rfl rfl rfl rfl) (va_cons (ve_var (pv 0)) (va_nil))))) (vss_one (vs_raise rfl X_InvalidTable hr (by decide) rfl (takes_of rfl rfl rfl rfl) rfl (ve_var (pv 0)))) (vss_nil)) (vss_one (vs_ret (ve_join rfl (ve_str) (ve_lst (vl_lc rfl sc_rate_text.nd (vi_seq rfl (ve_var (pv 0))) (blkOk_by (own := [("row", 1)]) (by kernel_rfl)) (fun _ _ _ _ _ => pg_name (i := 1) sc_rate_text.nd rfl (by first | exact .inl rfl | exact .inr rfl)) (tg_name 1) (fun _ _ _ _ _ => vts_nil) (fun _ _ _ _ _ => ve_op op_add4 (o_add rfl) (ve_join rfl (ve_str) (ve_lst (vl_lc rfl sc_rate_text.nd (vi_seq rfl (ve_var (pv 1))) (blkOk_by (own := [("one", 2)]) (by kernel_rfl)) (fun _ _ _ _ _ => pg_name (i := 2) sc_rate_text.nd rfl (by first | exact .inl rfl | exact .inr rfl)) (tg_name 2) (fun _ _ _ _ _ => vts_nil) (fun _ _ _ _ _ => ve_call F_char_of hr (by decide) rfl (takes_W0) (va_cons (ve_var (pv 2)) (va_nil)))))) (ve_str)))))))), Fn⟩
theorem fv_rate_text (T : Txt K w mg) (F_is_table : Fv P w K mg base (cc K B) 3 "is_table" 1 m_is_table) (X_InvalidTable : Ec P w K mg base (cc K B) 1 "InvalidTable" 1 "given") (F_char_of : Fv P w K mg base (cc K B) 1 "char_of" 1 m_char_of) : Fv P w K mg base (cc K B) 4 "rate_text" 1 m_rate_text := by
  obtain ⟨f, fd, hm, ok, Fn⟩ := fo_rate_text (P := P) (base := base) (B := B) T F_is_table X_InvalidTable F_char_of
  exact ⟨f, fd, ["table"], rfl, hm, ok, Fn.kp, Fn.binds fun _ _ _ _ _ _ us hl => match us, hl with | [_], _ => rfl⟩
theorem kv_rate_text_table (T : Txt K w mg) (F_is_table : Fv P w K mg base (cc K B) 3 "is_table" 1 m_is_table) (X_InvalidTable : Ec P w K mg base (cc K B) 1 "InvalidTable" 1 "given") (F_char_of : Fv P w K mg base (cc K B) 1 "char_of" 1 m_char_of) : FvK P w K mg base (cc K B) 4 "rate_text" 1 m_rate_text ["table"] [0] := by
  obtain ⟨f, fd, hm, ok, Fn⟩ := fo_rate_text (P := P) (base := base) (B := B) T F_is_table X_InvalidTable F_char_of
  refine ⟨f, fd, ["table"], rfl, hm, ok, Fn.kp, fun s us hK hl => match us, hl with | [u0], _ => ?_⟩
  obtain ⟨oc, od, kV, doc, pm, an, cdv, ct, osl, rfl, lk, hcd⟩ := Fn.ex
  exact BindsTo.of_eq (by first | rfl | with_unfolding_all rfl)
theorem sc_is_line : FnScope ["line", "char"] ["line"] (defScope s_is_line) := ⟨rfl, rfl, rfl, by decide +kernel, rfl, by decide +kernel, by decide +kernel⟩
def b_is_line : GS := sRet (eAnd (eOp2 pEq (eOp1 pLen (eVar 0)) (eC (.int 4))) (eOp1 pAll (eLst (lLc [1] (iSeq (eVar 0)) (gN 1) (gYes) (eOp1 (tabIn t_SHOWN) (eVar 1))))))
def m_is_line : GF := fnV 2 noPin b_is_line
theorem fo_is_line (T : Txt K w mg)  : ∃ f fd, mg "is_line" = some (.ref f) ∧ FnOk P w K mg base (L2.CX P w) 1 f fd ["line"] (SpV (cc K B) 1 m_is_line) ∧ Fun K "is_line" "is_line" s_is_line f fd := by
  obtain ⟨f, fd, hm, Fn⟩ := T.d_is_line
  exact ⟨f, fd, hm, fn_ok (c := cc K B) (N := ["line", "char"]) (pn := noPin) rfl Fn sc_is_line rfl (by decide) (fun cdv A outer s H E hr => vss_one (vs_ret (ve_and (ve_cmp (op_eq2 (hu64 hr)) (o_eq rfl) rfl (ve_callB call_len2 (o_len rfl) rfl T.f_len b_len (ve_var (pv 0))) (ve_gint rfl T.i_CELLS)) (ve_one (ve_callB (cr_all rfl) (o_all rfl) rfl T.f_all b_all (ve_lst (vl_lc rfl sc_is_line.nd (vi_seq rfl (ve_var (pv 0))) (blkOk_by (own := [("char", 1)]) (by kernel_rfl)) (fun _ _ _ _ _ => pg_name (i := 1) sc_is_line.nd rfl (by first | exact .inl rfl | exact .inr rfl)) (tg_name 1) (fun _ _ _ _ _ => vts_nil) (fun _ _ _ _ _ => ve_tabIn T.t_SHOWN rfl (ve_var (pv 1)))))))))), Fn⟩
theorem fv_is_line (T : Txt K w mg)  : Fv P w K mg base (cc K B) 1 "is_line" 1 m_is_line := by
  obtain ⟨f, fd, hm, ok, Fn⟩ := fo_is_line (P := P) (base := base) (B := B) T 
  exact ⟨f, fd, ["line"], rfl, hm, ok, Fn.kp, Fn.binds fun _ _ _ _ _ _ us hl => match us, hl with | [_], _ => rfl⟩
theorem sc_read_rates : FnScope ["text", "lines", "line", "char"] ["text"] (defScope s_read_rates) := ⟨rfl, rfl, rfl, by decide +kernel, rfl, by decide +kernel, by decide +kernel⟩
def b_read_rates : GS := sSeq (sSet 1 (eIf (gVal (eOp1 (pIsi "str") (eVar 0))) (eLst (lStrM lSplit (eVar 0) (eC (.str "\n")))) (eLst (lDisp (aNil))))) (sSeq (sIf (gOr (gBl (eOp2 pNe (eOp1 pLen (eVar 1)) (eOp2 pAdd (eC (.int 4)) (eC (.int 1))))) (gOr (gBl (eOp2 pNe (eOp2 pIx (eVar 1) (eOp1 pNeg (eC (.int 1)))) (eC (.str "")))) (gNot (gVal (eOp1 pAll (eLst (lLc [2] (iSeq (eSl pSl (eVar 1) (oNone) (oSome (eOp1 pNeg (eC (.int 1)))))) (gN 2) (gYes) (eCall m_is_line (aCons (eVar 2) (aNil)))))))))) (sRaise 2 "given" (eVar 0)) (sNil)) (sRet (eOp1 pTuple (eLst (lLc [2] (iSeq (eSl pSl (eVar 1) (oNone) (oSome (eOp1 pNeg (eC (.int 1)))))) (gN 2) (gYes) (eOp1 pTuple (eLst (lLc [3] (iSeq (eVar 2)) (gN 3) (gYes) (eOp1 (tabIx t_SHOWN) (eVar 3))))))))))
def m_read_rates : GF := fnV 4 noPin b_read_rates
theorem fo_read_rates (T : Txt K w mg) (F_is_line : Fv P w K mg base (cc K B) 1 "is_line" 1 m_is_line) (X_InvalidText : Ec P w K mg base (cc K B) 1 "InvalidText" 2 "given") : ∃ f fd, mg "read_rates" = some (.ref f) ∧ FnOk P w K mg base (L2.CX P w) 3 f fd ["text"] (SpV (cc K B) 1 m_read_rates) ∧ Fun K "read_rates" "read_rates" s_read_rates f fd := by
  obtain ⟨f, fd, hm, Fn⟩ := T.d_read_rates
  exact ⟨f, fd, hm, fn_ok (c := cc K B) (N := ["text", "lines", "line", "char"]) (pn := noPin) rfl Fn sc_read_rates rfl (by decide) (fun cdv A outer s H E hr => vss_cons (vs_set (i := 1) sc_read_rates.nd rfl (by first | exact .inl rfl | exact .inr rfl) rfl (ve_if (vt_val rfl (ve_isi rfl rfl T.f_isinstance b_isinstance (ve_var (pv 0)) rfl T.f_str b_str)) (ve_lst (vl_split (ve_var (pv 0)) (ve_str))) (ve_lst (vl_disp (va_nil))))) (vss_cons (vs_if (vt_pw (vw_or (vt_cmp (op_ne2 (hu64 hr)) (o_ne rfl) rfl (ve_callB call_len2 (o_len rfl) rfl T.f_len b_len (ve_var (pv 1))) (ve_op op_add4 (o_add rfl) (ve_gint rfl T.i_ROWS) (ve_int))) (vw_or (vt_cmp (op_ne2 (hu64 hr)) (o_ne rfl) rfl (ve_ix (ix_4 (hu1 hr)) (o_ix rfl) (ve_var (pv 1)) (ve_un un_neg o_neg (ve_int))) (ve_str)) (vw_or1 (vt_not (vt_val rfl (ve_callB (cr_all rfl) (o_all rfl) rfl T.f_all b_all (ve_lst (vl_lc rfl sc_read_rates.nd (vi_seq rfl (ve_slice sl_3 (o_sl rfl) (ve_var (pv 1)) (vo_none) (vo_some (ve_un un_neg o_neg (ve_int))))) (blkOk_by (own := [("line", 2)]) (by kernel_rfl)) (fun _ _ _ _ _ => pg_name (i := 2) sc_read_rates.nd rfl (by first | exact .inl rfl | exact .inr rfl)) (tg_name 2) (fun _ _ _ _ _ => vts_nil) (fun _ _ _ _ _ => ve_call F_is_line hr (by decide) rfl (takes_W0) (va_cons (ve_var (pv 2)) (va_nil)))))))))))) (vss_one (vs_raise rfl X_InvalidText hr (by decide) rfl (takes_of rfl rfl rfl rfl) rfl (ve_var (pv 0)))) (vss_nil)) (vss_one (vs_ret (ve_callTy call_tuple2 (o_tuple rfl) rfl T.f_tuple b_tuple (ve_lst (vl_lc rfl sc_read_rates.nd (vi_seq rfl (ve_slice sl_3 (o_sl rfl) (ve_var (pv 1)) (vo_none) (vo_some (ve_un un_neg o_neg (ve_int))))) (blkOk_by (own := [("line", 2)]) (by kernel_rfl)) (fun _ _ _ _ _ => pg_name (i := 2) sc_read_rates.nd rfl (by first | exact .inl rfl | exact .inr rfl)) (tg_name 2) (fun _ _ _ _ _ => vts_nil) (fun _ _ _ _ _ => ve_callTy call_tuple2 (o_tuple rfl) rfl T.f_tuple b_tuple (ve_lst (vl_lc rfl sc_read_rates.nd (vi_seq rfl (ve_var (pv 2))) (blkOk_by (own := [("char", 3)]) (by kernel_rfl)) (fun _ _ _ _ _ => pg_name (i := 3) sc_read_rates.nd rfl (by first | exact .inl rfl | exact .inr rfl)) (tg_name 3) (fun _ _ _ _ _ => vts_nil) (fun _ _ _ _ _ => ve_tabIx T.t_SHOWN rfl (ve_var (pv 3))))))))))))), Fn⟩
theorem fv_read_rates (T : Txt K w mg) (F_is_line : Fv P w K mg base (cc K B) 1 "is_line" 1 m_is_line) (X_InvalidText : Ec P w K mg base (cc K B) 1 "InvalidText" 2 "given") : Fv P w K mg base (cc K B) 3 "read_rates" 1 m_read_rates := by
  obtain ⟨f, fd, hm, ok, Fn⟩ := fo_read_rates (P := P) (base := base) (B := B) T F_is_line X_InvalidText
  exact ⟨f, fd, ["text"], rfl, hm, ok, Fn.kp, Fn.binds fun _ _ _ _ _ _ us hl => match us, hl with | [_], _ => rfl⟩
theorem kv_read_rates_text (T : Txt K w mg) (F_is_line : Fv P w K mg base (cc K B) 1 "is_line" 1 m_is_line) (X_InvalidText : Ec P w K mg base (cc K B) 1 "InvalidText" 2 "given") : FvK P w K mg base (cc K B) 3 "read_rates" 1 m_read_rates ["text"] [0] := by
  obtain ⟨f, fd, hm, ok, Fn⟩ := fo_read_rates (P := P) (base := base) (B := B) T F_is_line X_InvalidText
  refine ⟨f, fd, ["text"], rfl, hm, ok, Fn.kp, fun s us hK hl => match us, hl with | [u0], _ => ?_⟩
  obtain ⟨oc, od, kV, doc, pm, an, cdv, ct, osl, rfl, lk, hcd⟩ := Fn.ex
  exact BindsTo.of_eq (by first | rfl | with_unfolding_all rfl)
theorem sc__law_cell : FnScope ["script", "k"] ["script", "k"] (defScope s__law_cell) := ⟨rfl, rfl, rfl, by decide +kernel, rfl, by decide +kernel, by decide +kernel⟩
def b__law_cell : GS := sRet (eIf (gBl (eOp2 pLt (eVar 1) (eOp1 pLen (eVar 0)))) (eOp2 pIx (eVar 0) (eVar 1)) (eOp2 pAdd (eOp2 pMul (eC (.int 6007)) (eVar 1)) (eOp2 pMod (eOp1 pInt (eOp1 pSum (eSl pSl (eVar 0) (oNone) (oSome (eC (.int 1)))))) (eC (.int 1000033)))))
def m__law_cell : GF := fnV 2 noPin b__law_cell
theorem fo__law_cell (T : Txt K w mg)  : ∃ f fd, mg "_law_cell" = some (.ref f) ∧ FnOk P w K mg base (L2.CX P w) 1 f fd ["script", "k"] (SpV (cc K B) 2 m__law_cell) ∧ Fun K "_law_cell" "_law_cell" s__law_cell f fd := by
  obtain ⟨f, fd, hm, Fn⟩ := T.d__law_cell
  exact ⟨f, fd, hm, fn_ok (c := cc K B) (N := ["script", "k"]) (pn := noPin) rfl Fn sc__law_cell rfl (by decide) (fun cdv A outer s H E hr => vss_one (vs_ret (ve_if (vt_cmp op_lt o_lt rfl (ve_var (pv 1)) (ve_callB call_len2 (o_len rfl) rfl T.f_len b_len (ve_var (pv 0)))) (ve_ix (ix_4 (hu1 hr)) (o_ix rfl) (ve_var (pv 0)) (ve_var (pv 1))) (ve_op op_add4 (o_add rfl) (ve_op op_mul2 o_mul (ve_int) (ve_var (pv 1))) (ve_op op_mod o_mod (ve_callTy call_int1 o_int rfl T.f_int b_int (ve_callB (cr_sum rfl) (o_sum rfl) rfl T.f_sum b_sum (ve_slice sl_3 (o_sl rfl) (ve_var (pv 0)) (vo_none) (vo_some (ve_int))))) (ve_int)))))), Fn⟩
theorem fv__law_cell (T : Txt K w mg)  : Fv P w K mg base (cc K B) 1 "_law_cell" 2 m__law_cell := by
  obtain ⟨f, fd, hm, ok, Fn⟩ := fo__law_cell (P := P) (base := base) (B := B) T 
  exact ⟨f, fd, ["script", "k"], rfl, hm, ok, Fn.kp, Fn.binds fun _ _ _ _ _ _ us hl => match us, hl with | [_, _], _ => rfl⟩
theorem sc__law_box : FnScope ["great"] ["great"] (defScope s__law_box) := ⟨rfl, rfl, rfl, by decide +kernel, rfl, by decide +kernel, by decide +kernel⟩
def b__law_box : GL := lDisp (aCons (eOp1 pAbs (eVar 0)) (aCons (eOp2 pGe (eOp1 pAbs (eVar 0)) (eOp2 pPow (eC (.int 10)) (eC (.int 18)))) (aCons (eOp2 pMod (eOp1 pInt (eOp1 pAbs (eVar 0))) (eC (.int 2147483629))) (aCons (eC (.int 0)) (aNil)))))
def m__law_box : GFL := fnL 1 b__law_box
theorem fv__law_box (T : Txt K w mg) : FvL P w K mg base (cc K B) 1 "_law_box" 1 m__law_box := by
  obtain ⟨f, fd, hm, Fn⟩ := T.d__law_box
  exact ⟨f, fd, ["great"], rfl, hm, fnL_ok (N := ["great"]) Fn sc__law_box rfl (by decide) rfl (fun cdv A outer s H E hr => vl_disp (va_cons (ve_callB call_abs o_abs rfl T.f_abs b_abs (ve_var (pv 0))) (va_cons (ve_cmp op_ge o_ge rfl (ve_callB call_abs o_abs rfl T.f_abs b_abs (ve_var (pv 0))) (ve_op op_pow o_pow (ve_int) (ve_int))) (va_cons (ve_op op_mod o_mod (ve_callTy call_int1 o_int rfl T.f_int b_int (ve_callB call_abs o_abs rfl T.f_abs b_abs (ve_var (pv 0)))) (ve_int)) (va_cons (ve_int) (va_nil)))))), Fn.kp, Fn.binds fun _ _ _ _ _ _ us hl => match us, hl with | [_], _ => rfl⟩
theorem sc__law_take : FnScope ["box", "many", "digit", "mixed"] ["box", "many"] (defScope s__law_take) := ⟨rfl, rfl, rfl, by decide +kernel, rfl, by decide +kernel, by decide +kernel⟩
def b__law_take : GS := sSeq (sIf (gAnd (gVal (eIxO 0 (eC (.int 1)))) (gBl (eOp2 pGt (eIxO 0 (eC (.int 0))) (eC (.int 0))))) (sSeq (sSet 2 (eOp2 pMod (eOp1 pInt (eIxO 0 (eC (.int 0)))) (eVar 1))) (sSeq (sPutO 0 (eC (.int 0)) (eOp2 pFdiv (eIxO 0 (eC (.int 0))) (eVar 1))) (sRet (eVar 2)))) (sNil)) (sSeq (sPutO 0 (eC (.int 3)) (eOp2 pAdd (eIxO 0 (eC (.int 3))) (eC (.int 1)))) (sSeq (sSet 3 (eOp2 pMod (eOp1 pInt (eOp2 pPow (eOp2 pAdd (eOp2 pAdd (eIxO 0 (eC (.int 2))) (eOp2 pMul (eC (.int 15485863)) (eIxO 0 (eC (.int 3))))) (eC (.int 179424673))) (eC (.int 5)))) (eC (.int 2147483647)))) (sRet (eOp2 pMod (eOp1 pInt (eOp2 pFdiv (eOp2 pMod (eOp1 pInt (eOp2 pPow (eOp2 pAdd (eOp2 pMul (eVar 3) (eC (.int 48271))) (eOp2 pMul (eC (.int 104729)) (eIxO 0 (eC (.int 3))))) (eC (.int 3)))) (eC (.int 2147483587))) (eC (.int 64)))) (eVar 1)))))
def m__law_take : GF := fnV 4 pin0 b__law_take
theorem fo__law_take (T : Txt K w mg)  : ∃ f fd, mg "_law_take" = some (.ref f) ∧ FnOk P w K mg base (L2.CX P w) 1 f fd ["box", "many"] (SpV (cc K B) 2 m__law_take) ∧ Fun K "_law_take" "_law_take" s__law_take f fd := by
  obtain ⟨f, fd, hm, Fn⟩ := T.d__law_take
  exact ⟨f, fd, hm, fn_ok (c := cc K B) (N := ["box", "many", "digit", "mixed"]) (pn := pin0) rfl Fn sc__law_take rfl (by decide) (fun cdv A outer s H E hr => vss_cons (vs_if (vt_pw (vw_and (vt_val rfl (ve_ixO rfl (pv 0) (ve_int))) (vw_and1 (vt_cmp op_gt o_gt rfl (ve_ixO rfl (pv 0) (ve_int)) (ve_int))))) (vss_cons (vs_set (i := 2) sc__law_take.nd rfl (by first | exact .inl rfl | exact .inr rfl) rfl (ve_op op_mod o_mod (ve_callTy call_int1 o_int rfl T.f_int b_int (ve_ixO rfl (pv 0) (ve_int))) (ve_var (pv 1)))) (vss_cons (vs_putO (pv 0) (ve_int) (ve_op op_fdiv o_fdiv (ve_ixO rfl (pv 0) (ve_int)) (ve_var (pv 1)))) (vss_one (vs_ret (ve_var (pv 2)))))) (vss_nil)) (vss_cons (vs_putO (pv 0) (ve_int) (ve_op op_add4 (o_add rfl) (ve_ixO rfl (pv 0) (ve_int)) (ve_int))) (vss_cons (vs_set (i := 3) sc__law_take.nd rfl (by first | exact .inl rfl | exact .inr rfl) rfl (ve_op op_mod o_mod (ve_callTy call_int1 o_int rfl T.f_int b_int (ve_op op_pow o_pow (ve_op op_add4 (o_add rfl) (ve_op op_add4 (o_add rfl) (ve_ixO rfl (pv 0) (ve_int)) (ve_op op_mul2 o_mul (ve_int) (ve_ixO rfl (pv 0) (ve_int)))) (ve_int)) (ve_int))) (ve_int))) (vss_one (vs_ret (ve_op op_mod o_mod (ve_callTy call_int1 o_int rfl T.f_int b_int (ve_op op_fdiv o_fdiv (ve_op op_mod o_mod (ve_callTy call_int1 o_int rfl T.f_int b_int (ve_op op_pow o_pow (ve_op op_add4 (o_add rfl) (ve_op op_mul2 o_mul (ve_var (pv 3)) (ve_int)) (ve_op op_mul2 o_mul (ve_int) (ve_ixO rfl (pv 0) (ve_int)))) (ve_int))) (ve_int)) (ve_int))) (ve_var (pv 1)))))))), Fn⟩
theorem fv__law_take (T : Txt K w mg)  : Fv P w K mg base (cc K B) 1 "_law_take" 2 m__law_take := by
  obtain ⟨f, fd, hm, ok, Fn⟩ := fo__law_take (P := P) (base := base) (B := B) T 
  exact ⟨f, fd, ["box", "many"], rfl, hm, ok, Fn.kp, Fn.binds fun _ _ _ _ _ _ us hl => match us, hl with | [_, _], _ => rfl⟩
theorem sc__law_same : FnScope ["told", "due", "k"] ["told", "due"] (defScope s__law_same) := ⟨rfl, rfl, rfl, by decide +kernel, rfl, by decide +kernel, by decide +kernel⟩
def b__law_same (m : GF) : GS := sSeq (sIf (gOr (gBl (eOp2 pIs (eVar 1) (eC .non))) (gVal (eOp1 (pIsi "bool") (eVar 1)))) (sRet (eIf (gBl (eOp2 pIs (eVar 1) (eC .non))) (eOp2 pIs (eVar 0) (eC .non)) (eAnd (eOp1 (pIsi "bool") (eVar 0)) (eOp2 pEq (eOp2 pIs (eVar 0) (eC (.bl true))) (eOp2 pIs (eVar 1) (eC (.bl true))))))) (sNil)) (sSeq (sIf (gVal (eOp1 (pIsi "int") (eVar 1))) (sRet (eAnd (eOp1 (pIsi "int") (eVar 0)) (eAnd (eNot (eOp1 (pIsi "bool") (eVar 0))) (eOp2 pEq (eOp2 pSub (eOp1 pInt (eVar 0)) (eVar 1)) (eC (.int 0)))))) (sNil)) (sSeq (sIf (gVal (eOp1 (pIsi "str") (eVar 1))) (sRet (eAnd (eOp1 (pIsi "str") (eVar 0)) (eAnd (eOp2 pEq (eOp1 pLen (eVar 0)) (eOp1 pLen (eVar 1))) (eOp2 pEq (eLst (lLc [2] (iRng (eOp1 pLen (eVar 1))) (gN 2) (gBl (eOp2 pNe (eSl pSl (eVar 0) (oSome (eVar 2)) (oSome (eOp2 pAdd (eVar 2) (eC (.int 1))))) (eOp2 pIx (eVar 1) (eVar 2)))) (eVar 2))) (eLst (lDisp (aNil))))))) (sNil)) (sSeq (sIf (gOr (gBl (eOp2 pNe (eOp1 (pIsi "list") (eVar 0)) (eOp1 (pIsi "list") (eVar 1)))) (gBl (eOp2 pNe (eOp1 (pIsi "tuple") (eVar 0)) (eOp1 (pIsi "tuple") (eVar 1))))) (sRet (eC (.bl false))) (sNil)) (sRet (eAnd (eOp2 pEq (eOp1 pLen (eVar 0)) (eOp1 pLen (eVar 1))) (eOp2 pEq (eLst (lLc [2] (iRng (eOp1 pLen (eVar 1))) (gN 2) (gNot (gVal (eCall m (aCons (eOp2 pIx (eVar 0) (eVar 2)) (aCons (eOp2 pIx (eVar 1) (eVar 2)) (aNil)))))) (eVar 2))) (eLst (lDisp (aNil)))))))))
def m__law_same : Nat → GF
  | 0 => fNo
  | n + 1 => fnV 3 noPin (b__law_same (m__law_same n))
abbrev r__law_same : GF := m__law_same 12
theorem st__law_same (T : Txt K w mg) {j : Nat} {m : GF} (F__law_same : Fv P w K mg base (cc K B) j "_law_same" 2 m) : Fv P w K mg base (cc K B) (j + 1) "_law_same" 2 (fnV 3 noPin (b__law_same m)) := by
  obtain ⟨f, fd, hm, Fn⟩ := T.d__law_same
  exact ⟨f, fd, ["told", "due"], rfl, hm, fn_ok (c := cc K B) (N := ["told", "due", "k"]) (pn := noPin) rfl Fn sc__law_same rfl (by decide) (fun cdv A outer s H E hr => vss_cons (vs_if (vt_pw (vw_or (vt_cmp op_is2 o_is rfl (ve_var (pv 1)) (ve_non)) (vw_or1 (vt_val rfl (ve_isi rfl rfl T.f_isinstance b_isinstance (ve_var (pv 1)) rfl T.f_bool b_bool))))) (vss_one (vs_ret (ve_if (vt_cmp op_is2 o_is rfl (ve_var (pv 1)) (ve_non)) (ve_cmp op_is2 o_is rfl (ve_var (pv 0)) (ve_non)) (ve_and (ve_isi rfl rfl T.f_isinstance b_isinstance (ve_var (pv 0)) rfl T.f_bool b_bool) (ve_one (ve_cmp (op_eq2 (hu64 hr)) (o_eq rfl) rfl (ve_cmp op_is2 o_is rfl (ve_var (pv 0)) (ve_bl)) (ve_cmp op_is2 o_is rfl (ve_var (pv 1)) (ve_bl)))))))) (vss_nil)) (vss_cons (vs_if (vt_val rfl (ve_isi rfl rfl T.f_isinstance b_isinstance (ve_var (pv 1)) rfl T.f_int b_int)) (vss_one (vs_ret (ve_and (ve_isi rfl rfl T.f_isinstance b_isinstance (ve_var (pv 0)) rfl T.f_int b_int) (ve_and (ve_not (ve_isi rfl rfl T.f_isinstance b_isinstance (ve_var (pv 0)) rfl T.f_bool b_bool)) (ve_one (ve_cmp (op_eq2 (hu64 hr)) (o_eq rfl) rfl (ve_op op_sub o_sub (ve_callTy call_int1 o_int rfl T.f_int b_int (ve_var (pv 0))) (ve_var (pv 1))) (ve_int))))))) (vss_nil)) (vss_cons (vs_if (vt_val rfl (ve_isi rfl rfl T.f_isinstance b_isinstance (ve_var (pv 1)) rfl T.f_str b_str)) (vss_one (vs_ret (ve_and (ve_isi rfl rfl T.f_isinstance b_isinstance (ve_var (pv 0)) rfl T.f_str b_str) (ve_and (ve_cmp (op_eq2 (hu64 hr)) (o_eq rfl) rfl (ve_callB call_len2 (o_len rfl) rfl T.f_len b_len (ve_var (pv 0))) (ve_callB call_len2 (o_len rfl) rfl T.f_len b_len (ve_var (pv 1)))) (ve_one (ve_cmp (op_eq2 (hu64 hr)) (o_eq rfl) rfl (ve_lst (vl_lc rfl sc__law_same.nd (vi_rng rfl T.f_range (ve_callB call_len2 (o_len rfl) rfl T.f_len b_len (ve_var (pv 1)))) (blkOk_by (own := [("k", 2)]) (by kernel_rfl)) (fun _ _ _ _ _ => pg_name (i := 2) sc__law_same.nd rfl (by first | exact .inl rfl | exact .inr rfl)) (tg_name 2) (fun _ _ _ _ _ => vts_one (vt_cmp (op_ne2 (hu64 hr)) (o_ne rfl) rfl (ve_slice sl_3 (o_sl rfl) (ve_var (pv 0)) (vo_some (ve_var (pv 2))) (vo_some (ve_op op_add4 (o_add rfl) (ve_var (pv 2)) (ve_int)))) (ve_ix (ix_4 (hu1 hr)) (o_ix rfl) (ve_var (pv 1)) (ve_var (pv 2))))) (fun _ _ _ _ _ => ve_var (pv 2)))) (ve_lst (vl_disp (va_nil))))))))) (vss_nil)) (vss_cons (vs_if (vt_pw (vw_or (vt_cmp (op_ne2 (hu64 hr)) (o_ne rfl) rfl (ve_isi rfl rfl T.f_isinstance b_isinstance (ve_var (pv 0)) rfl T.f_list b_list) (ve_isi rfl rfl T.f_isinstance b_isinstance (ve_var (pv 1)) rfl T.f_list b_list)) (vw_or1 (vt_cmp (op_ne2 (hu64 hr)) (o_ne rfl) rfl (ve_isi rfl rfl T.f_isinstance b_isinstance (ve_var (pv 0)) rfl T.f_tuple b_tuple) (ve_isi rfl rfl T.f_isinstance b_isinstance (ve_var (pv 1)) rfl T.f_tuple b_tuple))))) (vss_one (vs_ret (ve_bl))) (vss_nil)) (vss_one (vs_ret (ve_and (ve_cmp (op_eq2 (hu64 hr)) (o_eq rfl) rfl (ve_callB call_len2 (o_len rfl) rfl T.f_len b_len (ve_var (pv 0))) (ve_callB call_len2 (o_len rfl) rfl T.f_len b_len (ve_var (pv 1)))) (ve_one (ve_cmp (op_eq2 (hu64 hr)) (o_eq rfl) rfl (ve_lst (vl_lc rfl sc__law_same.nd (vi_rng rfl T.f_range (ve_callB call_len2 (o_len rfl) rfl T.f_len b_len (ve_var (pv 1)))) (blkOk_by (own := [("k", 2)]) (by kernel_rfl)) (fun _ _ _ _ _ => pg_name (i := 2) sc__law_same.nd rfl (by first | exact .inl rfl | exact .inr rfl)) (tg_name 2) (fun _ _ _ _ _ => vts_one (vt_not (vt_val rfl (ve_call F__law_same hr (Nat.le_refl _) rfl (takes_W0) (va_cons (ve_ix (ix_4 (hu1 hr)) (o_ix rfl) (ve_var (pv 0)) (ve_var (pv 2))) (va_cons (ve_ix (ix_4 (hu1 hr)) (o_ix rfl) (ve_var (pv 1)) (ve_var (pv 2))) (va_nil))))))) (fun _ _ _ _ _ => ve_var (pv 2)))) (ve_lst (vl_disp (va_nil)))))))))))), Fn.kp, Fn.binds fun _ _ _ _ _ _ us hl => match us, hl with | [_, _], _ => rfl⟩
theorem fn__law_same (T : Txt K w mg) : ∀ n : Nat, Fv P w K mg base (cc K B) (n + 1) "_law_same" 2 (m__law_same n)
  | 0 => by
    obtain ⟨f, fd, hm, Fn⟩ := T.d__law_same
    exact ⟨f, fd, ["told", "due"], rfl, hm, fn_no Fn sc__law_same rfl, Fn.kp, Fn.binds fun _ _ _ _ _ _ us hl => match us, hl with | [_, _], _ => rfl⟩
  | n + 1 => st__law_same T (fn__law_same T n)
theorem fv__law_same (T : Txt K w mg) : Fv P w K mg base (cc K B) 13 "_law_same" 2 r__law_same := fn__law_same T 12
theorem sc__law_very : FnScope ["told", "passed"] ["told", "passed"] (defScope s__law_very) := ⟨rfl, rfl, rfl, by decide +kernel, rfl, by decide +kernel, by decide +kernel⟩
theorem fv__law_very (T : Txt K w mg) (V7 : Very7 r__law_same) (F__law_same : Fv P w K mg base (cc K B) 13 "_law_same" 2 r__law_same) : FvVery P w K mg base (cc K B) 14 "_law_very" r__law_same := by
  obtain ⟨f, fd, hm, Fn⟩ := T.d__law_very
  refine ⟨f, fd, ["told", "passed"], hm, very_ok (c := cc K B) V7 Fn sc__law_very (fun cdv A outer s H E hr => ⟨_, _, _, _, _, _, _, _, _, rfl, vt_val rfl (ve_isi rfl rfl T.f_isinstance b_isinstance (ve_var (pv 1)) rfl T.f_list b_list), vx_app (pv 1), vs_ret (ve_and (ve_isi rfl rfl T.f_isinstance b_isinstance (ve_var (pv 0)) rfl T.f_list b_list) (ve_and (ve_cmp (op_eq2 (hu64 hr)) (o_eq rfl) rfl (ve_callB call_len2 (o_len rfl) rfl T.f_len b_len (ve_var (pv 0))) (ve_callB call_len2 (o_len rfl) rfl T.f_len b_len (ve_var (pv 1)))) (ve_one (ve_call F__law_same hr (by decide) rfl (takes_of rfl rfl rfl rfl) (va_cons (ve_ix (ix_4 (hu1 hr)) (o_ix rfl) (ve_var (pv 0)) (ve_un un_neg o_neg (ve_int))) (va_cons (ve_int) (va_nil))))))), vt_val rfl (ve_isi rfl rfl T.f_isinstance b_isinstance (ve_var (pv 1)) rfl T.f_dict b_dict), vx_put (hu1 hr) (pv 1), vs_ret (ve_and (ve_isi rfl rfl T.f_isinstance b_isinstance (ve_var (pv 0)) rfl T.f_dict b_dict) (ve_and (ve_cmp (op_eq2 (hu64 hr)) (o_eq rfl) rfl (ve_callB call_len2 (o_len rfl) rfl T.f_len b_len (ve_var (pv 0))) (ve_callB call_len2 (o_len rfl) rfl T.f_len b_len (ve_var (pv 1)))) (ve_one (ve_call F__law_same hr (by decide) rfl (takes_of rfl rfl rfl rfl) (va_cons (ve_dget1 (hu1 hr) (ve_var (pv 0)) (ve_str) ⟨rfl, rfl, rfl, rfl⟩) (va_cons (ve_int) (va_nil))))))), vs_ret (ve_call F__law_same hr (by decide) rfl (takes_of rfl rfl rfl rfl) (va_cons (ve_var (pv 0)) (va_cons (ve_var (pv 1)) (va_nil))))⟩), Fn.kp, Fn.binds fun _ _ _ _ _ _ us hl => match us, hl with | [_, _], _ => rfl⟩
theorem sc__law_asked : FnScope ["which", "value", "named", "e"] ["which", "value", "named"] (defScope s__law_asked) := ⟨rfl, rfl, rfl, by decide +kernel, rfl, by decide +kernel, by decide +kernel⟩
def b__law_asked : GS := sTry exT [⟨1, some 3, .many [.c (.str "table"), .f "given"]⟩, ⟨2, some 3, .many [.c (.str "text"), .f "given"]⟩, ⟨0, none, .many [.c (.str "other"), .c .non]⟩] (sSeq (sIf (gBl (eOp2 pEq (eVar 0) (eC (.int 0)))) (sRet (eLst (lDisp (aCons (eC (.str "told")) (aCons (eIf (gVal (eVar 2)) (eCallK m_rate_text [0] (aCons (eVar 1) (aNil))) (eCall m_rate_text (aCons (eVar 1) (aNil)))) (aNil)))))) (sNil)) (sRet (eLst (lDisp (aCons (eC (.str "told")) (aCons (eIf (gVal (eVar 2)) (eCallK m_read_rates [0] (aCons (eVar 1) (aNil))) (eCall m_read_rates (aCons (eVar 1) (aNil)))) (aNil)))))))
def m__law_asked : GF := fnV 4 noPin b__law_asked
theorem fo__law_asked (T : Txt K w mg) (F_rate_text : Fv P w K mg base (cc K B) 4 "rate_text" 1 m_rate_text) (K_rate_text_table : FvK P w K mg base (cc K B) 4 "rate_text" 1 m_rate_text ["table"] [0]) (F_read_rates : Fv P w K mg base (cc K B) 3 "read_rates" 1 m_read_rates) (K_read_rates_text : FvK P w K mg base (cc K B) 3 "read_rates" 1 m_read_rates ["text"] [0]) : ∃ f fd, mg "_law_asked" = some (.ref f) ∧ FnOk P w K mg base (L2.CX P w) 5 f fd ["which", "value", "named"] (SpV (cc K B) 3 m__law_asked) ∧ Fun K "_law_asked" "_law_asked" s__law_asked f fd := by
  obtain ⟨f, fd, hm, Fn⟩ := T.d__law_asked
  exact ⟨f, fd, hm, fn_ok (c := cc K B) (N := ["which", "value", "named", "e"]) (pn := noPin) rfl Fn sc__law_asked rfl (by decide) (fun cdv A outer s H E hr => vss_one (vs_try rfl rfl rfl sc__law_asked.nd (takes_of rfl rfl rfl rfl) T.exm (fun W pl xe tk ps => vss_cons (vs_if (vt_cmp (op_eq2 (hu64 hr)) (o_eq rfl) rfl (ve_var (pv 0)) (ve_int)) (vss_one (vs_ret (ve_lst (vl_disp (va_cons (ve_str) (va_cons (ve_if (vt_val rfl (ve_var (pv 2))) (ve_callK K_rate_text_table hr (by decide) rfl rfl (tk) (vk_cons (ve_var (pv 1)) (vk_nil))) (ve_call F_rate_text hr (by decide) rfl (tk) (va_cons (ve_var (pv 1)) (va_nil)))) (va_nil))))))) (vss_nil)) (vss_one (vs_ret (ve_lst (vl_disp (va_cons (ve_str) (va_cons (ve_if (vt_val rfl (ve_var (pv 2))) (ve_callK K_read_rates_text hr (by decide) rfl rfl (tk) (vk_cons (ve_var (pv 1)) (vk_nil))) (ve_call F_read_rates hr (by decide) rfl (tk) (va_cons (ve_var (pv 1)) (va_nil)))) (va_nil)))))))) (.named (i := 3) ⟨rfl, by decide, .inl T.g_InvalidTable⟩ rfl rfl (suite_many (i := 3) (fun a oe cls d pl hz hf => .cons (pe_str) (.cons (pe_xf T.x_InvalidTable.xf T.x_InvalidTable.no hz hf (pv 3)) (.nil) rfl) rfl)) (.named (i := 3) ⟨rfl, by decide, .inl T.g_InvalidText⟩ rfl rfl (suite_many (i := 3) (fun a oe cls d pl hz hf => .cons (pe_str) (.cons (pe_xf T.x_InvalidText.xf T.x_InvalidText.no hz hf (pv 3)) (.nil) rfl) rfl)) (.bare ⟨rfl, by decide, .inl T.g_WireError⟩ (suite_many (i := 0) (fun a oe cls d pl hz hf => .cons (pe_str) (.cons (pe_non) (.nil) rfl) rfl)) (.nil)))) (hdsOk_ok (by rfl)))), Fn⟩
theorem fv__law_asked (T : Txt K w mg) (F_rate_text : Fv P w K mg base (cc K B) 4 "rate_text" 1 m_rate_text) (K_rate_text_table : FvK P w K mg base (cc K B) 4 "rate_text" 1 m_rate_text ["table"] [0]) (F_read_rates : Fv P w K mg base (cc K B) 3 "read_rates" 1 m_read_rates) (K_read_rates_text : FvK P w K mg base (cc K B) 3 "read_rates" 1 m_read_rates ["text"] [0]) : Fv P w K mg base (cc K B) 5 "_law_asked" 3 m__law_asked := by
  obtain ⟨f, fd, hm, ok, Fn⟩ := fo__law_asked (P := P) (base := base) (B := B) T F_rate_text K_rate_text_table F_read_rates K_read_rates_text
  exact ⟨f, fd, ["which", "value", "named"], rfl, hm, ok, Fn.kp, Fn.binds fun _ _ _ _ _ _ us hl => match us, hl with | [_, _, _], _ => rfl⟩
theorem sc__law_is_table : FnScope ["value", "row", "one"] ["value"] (defScope s__law_is_table) := ⟨rfl, rfl, rfl, by decide +kernel, rfl, by decide +kernel, by decide +kernel⟩
def b__law_is_table : GS := sSeq (sIf (gOr (gNot (gVal (eOp1 (pIsi "tuple") (eVar 0)))) (gBl (eOp2 pNe (eOp1 pLen (eVar 0)) (eC (.int 4))))) (sRet (eC (.bl false))) (sNil)) (sSeq (sFor (gN 1) (iSeq (eVar 0)) (sIf (gOr (gNot (gVal (eOp1 (pIsi "tuple") (eVar 1)))) (gOr (gBl (eOp2 pNe (eOp1 pLen (eVar 1)) (eC (.int 4)))) (gBl (eOp2 pNe (eLst (lLc [2] (iSeq (eVar 1)) (gN 2) (gAnd (gBl (eOp2 pIsNot (eVar 2) (eC .non))) (gNot (gVal (eOp1 (pIsi "bool") (eVar 2))))) (eVar 2))) (eLst (lDisp (aNil))))))) (sRet (eC (.bl false))) (sNil))) (sRet (eC (.bl true))))
def m__law_is_table : GF := fnV 3 noPin b__law_is_table
theorem fo__law_is_table (T : Txt K w mg)  : ∃ f fd, mg "_law_is_table" = some (.ref f) ∧ FnOk P w K mg base (L2.CX P w) 1 f fd ["value"] (SpV (cc K B) 1 m__law_is_table) ∧ Fun K "_law_is_table" "_law_is_table" s__law_is_table f fd := by
  obtain ⟨f, fd, hm, Fn⟩ := T.d__law_is_table
  exact ⟨f, fd, hm, fn_ok (c := cc K B) (N := ["value", "row", "one"]) (pn := noPin) rfl Fn sc__law_is_table rfl (by decide) (fun cdv A outer s H E hr => vss_cons (vs_if (vt_pw (vw_or (vt_not (vt_val rfl (ve_isi rfl rfl T.f_isinstance b_isinstance (ve_var (pv 0)) rfl T.f_tuple b_tuple))) (vw_or1 (vt_cmp (op_ne2 (hu64 hr)) (o_ne rfl) rfl (ve_callB call_len2 (o_len rfl) rfl T.f_len b_len (ve_var (pv 0))) (ve_int))))) (vss_one (vs_ret (ve_bl))) (vss_nil)) (vss_cons (vs_for (passes_of rfl) rfl (vi_seq rfl (ve_var (pv 0))) (pg_name (i := 1) sc__law_is_table.nd rfl (by first | exact .inl rfl | exact .inr rfl)) (tg_name 1) (by decide) (vss_one (vs_if (vt_pw (vw_or (vt_not (vt_val rfl (ve_isi rfl rfl T.f_isinstance b_isinstance (ve_var (pv 1)) rfl T.f_tuple b_tuple))) (vw_or (vt_cmp (op_ne2 (hu64 hr)) (o_ne rfl) rfl (ve_callB call_len2 (o_len rfl) rfl T.f_len b_len (ve_var (pv 1))) (ve_int)) (vw_or1 (vt_cmp (op_ne2 (hu64 hr)) (o_ne rfl) rfl (ve_lst (vl_lc rfl sc__law_is_table.nd (vi_seq rfl (ve_var (pv 1))) (blkOk_by (own := [("one", 2)]) (by kernel_rfl)) (fun _ _ _ _ _ => pg_name (i := 2) sc__law_is_table.nd rfl (by first | exact .inl rfl | exact .inr rfl)) (tg_name 2) (fun _ _ _ _ _ => vts_one (vt_pw (vw_and (vt_cmp op_isNot2 o_isNot rfl (ve_var (pv 2)) (ve_non)) (vw_and1 (vt_not (vt_val rfl (ve_isi rfl rfl T.f_isinstance b_isinstance (ve_var (pv 2)) rfl T.f_bool b_bool))))))) (fun _ _ _ _ _ => ve_var (pv 2)))) (ve_lst (vl_disp (va_nil)))))))) (vss_one (vs_ret (ve_bl))) (vss_nil)))) (vss_one (vs_ret (ve_bl))))), Fn⟩
theorem fv__law_is_table (T : Txt K w mg)  : Fv P w K mg base (cc K B) 1 "_law_is_table" 1 m__law_is_table := by
  obtain ⟨f, fd, hm, ok, Fn⟩ := fo__law_is_table (P := P) (base := base) (B := B) T 
  exact ⟨f, fd, ["value"], rfl, hm, ok, Fn.kp, Fn.binds fun _ _ _ _ _ _ us hl => match us, hl with | [_], _ => rfl⟩
theorem sc__law_text : FnScope ["table", "text", "row", "one"] ["table"] (defScope s__law_text) := ⟨rfl, rfl, rfl, by decide +kernel, rfl, by decide +kernel, by decide +kernel⟩
def b__law_text : GS := sSeq (sSet 1 (eC (.str ""))) (sSeq (sFor (gN 2) (iSeq (eVar 0)) (sSeq (sFor (gN 3) (iSeq (eVar 2)) (sSet 1 (eOp2 pAdd (eVar 1) (eIf (gBl (eOp2 pIs (eVar 3) (eC .non))) (eC (.str "?")) (eIf (gVal (eVar 3)) (eC (.str "+")) (eC (.str "-"))))))) (sSet 1 (eOp2 pAdd (eVar 1) (eC (.str "\n")))))) (sRet (eVar 1)))
def m__law_text : GF := fnV 4 noPin b__law_text
theorem fo__law_text (T : Txt K w mg)  : ∃ f fd, mg "_law_text" = some (.ref f) ∧ FnOk P w K mg base (L2.CX P w) 1 f fd ["table"] (SpV (cc K B) 1 m__law_text) ∧ Fun K "_law_text" "_law_text" s__law_text f fd := by
  obtain ⟨f, fd, hm, Fn⟩ := T.d__law_text
  exact ⟨f, fd, hm, fn_ok (c := cc K B) (N := ["table", "text", "row", "one"]) (pn := noPin) rfl Fn sc__law_text rfl (by decide) (fun cdv A outer s H E hr => vss_cons (vs_set (i := 1) sc__law_text.nd rfl (by first | exact .inl rfl | exact .inr rfl) rfl (ve_str)) (vss_cons (vs_for (passes_of rfl) rfl (vi_seq rfl (ve_var (pv 0))) (pg_name (i := 2) sc__law_text.nd rfl (by first | exact .inl rfl | exact .inr rfl)) (tg_name 2) (by decide) (vss_cons (vs_for (passes_of rfl) rfl (vi_seq rfl (ve_var (pv 2))) (pg_name (i := 3) sc__law_text.nd rfl (by first | exact .inl rfl | exact .inr rfl)) (tg_name 3) (by decide) (vss_one (vs_set (i := 1) sc__law_text.nd rfl (by first | exact .inl rfl | exact .inr rfl) rfl (ve_op op_add4 (o_add rfl) (ve_var (pv 1)) (ve_if (vt_cmp op_is2 o_is rfl (ve_var (pv 3)) (ve_non)) (ve_str) (ve_if (vt_val rfl (ve_var (pv 3))) (ve_str) (ve_str))))))) (vss_one (vs_set (i := 1) sc__law_text.nd rfl (by first | exact .inl rfl | exact .inr rfl) rfl (ve_op op_add4 (o_add rfl) (ve_var (pv 1)) (ve_str)))))) (vss_one (vs_ret (ve_var (pv 1)))))), Fn⟩
theorem fv__law_text (T : Txt K w mg)  : Fv P w K mg base (cc K B) 1 "_law_text" 1 m__law_text := by
  obtain ⟨f, fd, hm, ok, Fn⟩ := fo__law_text (P := P) (base := base) (B := B) T 
  exact ⟨f, fd, ["table"], rfl, hm, ok, Fn.kp, Fn.binds fun _ _ _ _ _ _ us hl => match us, hl with | [_], _ => rfl⟩
theorem sc__law_read : FnScope ["text", "rows", "k", "row", "sign"] ["text"] (defScope s__law_read) := ⟨rfl, rfl, rfl, by decide +kernel, rfl, by decide +kernel, by decide +kernel⟩
def b__law_read : GS := sSeq (sIf (gOr (gNot (gVal (eOp1 (pIsi "str") (eVar 0)))) (gOr (gBl (eOp2 pNe (eOp1 pLen (eVar 0)) (eC (.int 20)))) (gBl (eOp2 pNe (eLst (lLc [2] (iRng (eC (.int 4))) (gN 2) (gBl (eOp2 pNe (eOp2 pIx (eVar 0) (eOp2 pAdd (eOp2 pMul (eC (.int 5)) (eVar 2)) (eC (.int 4)))) (eC (.str "\n")))) (eVar 2))) (eLst (lDisp (aNil))))))) (sRet (eC .non)) (sNil)) (sSeq (sOwn 1 (lDisp (aNil))) (sSeq (sFor (gN 2) (iRng (eC (.int 4))) (sSeq (sSet 3 (eSl pSl (eVar 0) (oSome (eOp2 pMul (eC (.int 5)) (eVar 2))) (oSome (eOp2 pAdd (eOp2 pMul (eC (.int 5)) (eVar 2)) (eC (.int 4)))))) (sSeq (sIf (gBl (eOp2 pNe (eLst (lLc [4] (iSeq (eVar 3)) (gN 4) (gBl (eOp2 pNotIn (eVar 4) (eC (.str "+-?")))) (eVar 4))) (eLst (lDisp (aNil))))) (sRet (eC .non)) (sNil)) (sAppO 1 (eOp1 pTuple (eLst (lLc [4] (iSeq (eVar 3)) (gN 4) (gYes) (eIf (gBl (eOp2 pEq (eVar 4) (eC (.str "?")))) (eC .non) (eOp2 pEq (eVar 4) (eC (.str "+"))))))))))) (sPub 1 (sRet (eOp1 pTuple (eVar 1))))))
def m__law_read : GF := fnV 5 noPin b__law_read
theorem fo__law_read (T : Txt K w mg)  : ∃ f fd, mg "_law_read" = some (.ref f) ∧ FnOk P w K mg base (L2.CX P w) 1 f fd ["text"] (SpV (cc K B) 1 m__law_read) ∧ Fun K "_law_read" "_law_read" s__law_read f fd := by
  obtain ⟨f, fd, hm, Fn⟩ := T.d__law_read
  exact ⟨f, fd, hm, fn_ok (c := cc K B) (N := ["text", "rows", "k", "row", "sign"]) (pn := noPin) rfl Fn sc__law_read rfl (by decide) (fun cdv A outer s H E hr => vss_cons (vs_if (vt_pw (vw_or (vt_not (vt_val rfl (ve_isi rfl rfl T.f_isinstance b_isinstance (ve_var (pv 0)) rfl T.f_str b_str))) (vw_or (vt_cmp (op_ne2 (hu64 hr)) (o_ne rfl) rfl (ve_callB call_len2 (o_len rfl) rfl T.f_len b_len (ve_var (pv 0))) (ve_int)) (vw_or1 (vt_cmp (op_ne2 (hu64 hr)) (o_ne rfl) rfl (ve_lst (vl_lc rfl sc__law_read.nd (vi_rng rfl T.f_range (ve_int)) (blkOk_by (own := [("k", 2)]) (by kernel_rfl)) (fun _ _ _ _ _ => pg_name (i := 2) sc__law_read.nd rfl (by first | exact .inl rfl | exact .inr rfl)) (tg_name 2) (fun _ _ _ _ _ => vts_one (vt_cmp (op_ne2 (hu64 hr)) (o_ne rfl) rfl (ve_ix (ix_4 (hu1 hr)) (o_ix rfl) (ve_var (pv 0)) (ve_op op_add4 (o_add rfl) (ve_op op_mul2 o_mul (ve_int) (ve_var (pv 2))) (ve_int))) (ve_str))) (fun _ _ _ _ _ => ve_var (pv 2)))) (ve_lst (vl_disp (va_nil)))))))) (vss_one (vs_ret (ve_non))) (vss_nil)) (vss_cons (vs_own (i := 1) sc__law_read.nd rfl (by first | exact .inl rfl | exact .inr rfl) rfl (vl_disp (va_nil))) (vss_cons (vs_for (passes_of rfl) rfl (vi_rng rfl T.f_range (ve_int)) (pg_name (i := 2) sc__law_read.nd rfl (by first | exact .inl rfl | exact .inr rfl)) (tg_name 2) (by decide) (vss_cons (vs_set (i := 3) sc__law_read.nd rfl (by first | exact .inl rfl | exact .inr rfl) rfl (ve_slice sl_3 (o_sl rfl) (ve_var (pv 0)) (vo_some (ve_op op_mul2 o_mul (ve_int) (ve_var (pv 2)))) (vo_some (ve_op op_add4 (o_add rfl) (ve_op op_mul2 o_mul (ve_int) (ve_var (pv 2))) (ve_int))))) (vss_cons (vs_if (vt_cmp (op_ne2 (hu64 hr)) (o_ne rfl) rfl (ve_lst (vl_lc rfl sc__law_read.nd (vi_seq rfl (ve_var (pv 3))) (blkOk_by (own := [("sign", 4)]) (by kernel_rfl)) (fun _ _ _ _ _ => pg_name (i := 4) sc__law_read.nd rfl (by first | exact .inl rfl | exact .inr rfl)) (tg_name 4) (fun _ _ _ _ _ => vts_one (vt_cmp (op_notInA (hu65 hr)) (o_notIn rfl) rfl (ve_var (pv 4)) (ve_str))) (fun _ _ _ _ _ => ve_var (pv 4)))) (ve_lst (vl_disp (va_nil)))) (vss_one (vs_ret (ve_non))) (vss_nil)) (vss_one (vs_appO (pv 1) (ve_callTy call_tuple2 (o_tuple rfl) rfl T.f_tuple b_tuple (ve_lst (vl_lc rfl sc__law_read.nd (vi_seq rfl (ve_var (pv 3))) (blkOk_by (own := [("sign", 4)]) (by kernel_rfl)) (fun _ _ _ _ _ => pg_name (i := 4) sc__law_read.nd rfl (by first | exact .inl rfl | exact .inr rfl)) (tg_name 4) (fun _ _ _ _ _ => vts_nil) (fun _ _ _ _ _ => ve_if (vt_cmp (op_eq2 (hu64 hr)) (o_eq rfl) rfl (ve_var (pv 4)) (ve_str)) (ve_non) (ve_cmp (op_eq2 (hu64 hr)) (o_eq rfl) rfl (ve_var (pv 4)) (ve_str))))))))))) (vss_pub (i := 1) (vss_one (vs_ret (ve_callTy call_tuple2 (o_tuple rfl) rfl T.f_tuple b_tuple (ve_var (pv 1))))))))), Fn⟩
theorem fv__law_read (T : Txt K w mg)  : Fv P w K mg base (cc K B) 1 "_law_read" 1 m__law_read := by
  obtain ⟨f, fd, hm, ok, Fn⟩ := fo__law_read (P := P) (base := base) (B := B) T 
  exact ⟨f, fd, ["text"], rfl, hm, ok, Fn.kp, Fn.binds fun _ _ _ _ _ _ us hl => match us, hl with | [_], _ => rfl⟩
theorem sc_law : FnScope ["script", "k", "box", "named", "table", "text", "turn", "sign", "values", "value", "cells", "odd", "late", "rows", "bad", "at", "row", "found", "due", "every", "one"] ["script"] (defScope s_law) := ⟨rfl, rfl, rfl, by decide +kernel, rfl, by decide +kernel, by decide +kernel⟩
def b_law : GS := sSeq (sFor (gN 1) (iRng (eOp2 pMax2 (eC (.int 2)) (eOp2 pMin2 (eC (.int 6)) (eOp1 pLen (eVar 0))))) (sSeq (sBox 2 (lCall m__law_box (aCons (eCall m__law_cell (aCons (eVar 0) (aCons (eVar 1) (aNil)))) (aNil)))) (sSeq (sSet 3 (eOp2 pEq (eCallB mTake 2 (aCons (eC (.int 2)) (aNil))) (eC (.int 0)))) (sSeq (sSet 4 (eOp1 pTuple (eLst (lLc [19] (iRng (eC (.int 4))) (gN 19) (gYes) (eOp1 pTuple (eLst (lLc [12] (iRng (eC (.int 4))) (gN 12) (gYes) (eOp2 pIx (eLst (lDisp (aCons (eC (.bl true)) (aCons (eC (.bl false)) (aCons (eC .non) (aNil)))))) (eCallB mTake 2 (aCons (eC (.int 3)) (aNil))))))))))) (sSeq (sSet 5 (eCall m__law_text (aCons (eVar 4) (aNil)))) (sSeq (sFor (gN 6) (iRng (eC (.int 2))) (sSeq (sIf (gOr (gNot (gVal (eCall r__law_same (aCons (eCall m__law_asked (aCons (eC (.int 0)) (aCons (eVar 4) (aCons (eVar 3) (aNil))))) (aCons (eLst (lDisp (aCons (eC (.str "told")) (aCons (eVar 5) (aNil))))) (aNil)))))) (gNot (gVal (eCall r__law_same (aCons (eCall m__law_asked (aCons (eC (.int 1)) (aCons (eVar 5) (aCons (eNot (eVar 3)) (aNil))))) (aCons (eLst (lDisp (aCons (eC (.str "told")) (aCons (eVar 4) (aNil))))) (aNil))))))) (sRet (eC (.bl false))) (sNil)) (sSet 3 (eNot (eVar 3))))) (sSeq (sTgt (gT [15, 16]) (eTup (aCons (eCallB mTake 2 (aCons (eC (.int 20)) (aNil))) (aCons (eCallB mTake 2 (aCons (eC (.int 4)) (aNil))) (aNil))))) (sSeq (sSet 7 (eOp2 pIx (eC (.str "+-? \n0x")) (eCallB mTake 2 (aCons (eC (.int 7)) (aNil))))) (sSeq (sSet 8 (eLst (lDisp (aCons (eOp2 pAdd (eOp2 pAdd (eSl pSl (eVar 5) (oNone) (oSome (eVar 15))) (eVar 7)) (eSl pSl (eVar 5) (oSome (eOp2 pAdd (eVar 15) (eC (.int 1)))) (oNone))) (aCons (eOp2 pAdd (eSl pSl (eVar 5) (oNone) (oSome (eVar 15))) (eSl pSl (eVar 5) (oSome (eOp2 pAdd (eVar 15) (eC (.int 1)))) (oNone))) (aCons (eOp2 pAdd (eOp2 pAdd (eSl pSl (eVar 5) (oNone) (oSome (eVar 15))) (eVar 7)) (eSl pSl (eVar 5) (oSome (eVar 15)) (oNone))) (aCons (eSl pSl (eVar 5) (oNone) (oSome (eOp1 pNeg (eC (.int 1))))) (aCons (eOp2 pAdd (eVar 5) (eC (.str "\n"))) (aCons (eSl pSl (eVar 5) (oNone) (oSome (eC (.int 15)))) (aCons (eOp2 pAdd (eVar 5) (eSl pSl (eVar 5) (oNone) (oSome (eC (.int 5))))) (aNil))))))))))) (sSeq (sForR 9 [9, 18, 17] (rAdd (eVar 8) (rSl (rDisp (rPv (eC .non) (rPv (eVar 4) (rPv (eC (.str "")) (rPv (eC (.int 7)) (rMl (lDisp (aCons (eVar 5) (aNil))) (rNil))))))) (oSome (eCallB mTake 2 (aCons (eC (.int 5)) (aNil)))))) (sSeq (sPar 18 17 (eCall m__law_read (aCons (eVar 9) (aNil))) (eCall m__law_asked (aCons (eC (.int 1)) (aCons (eVar 9) (aCons (eVar 3) (aNil)))))) (sIfH (hOr (gAnd (gBl (eOp2 pIsNot (eVar 18) (eC .non))) (gNot (gVal (eCall r__law_same (aCons (eVar 17) (aCons (eLst (lDisp (aCons (eC (.str "told")) (aCons (eVar 18) (aNil))))) (aNil))))))) (hAnd (gBl (eOp2 pIs (eVar 18) (eC .non))) (hOr (gBl (eOp2 pNe (eOp2 pIx (eVar 17) (eC (.int 0))) (eC (.str "text")))) (hNot (hVery r__law_same (eOp2 pIx (eVar 17) (eC (.int 1))) (eVar 9)))))) (sRet (eC (.bl false)))))) (sSeq (sSet 10 (eOp2 pIx (eVar 4) (eVar 16))) (sSeq (sSet 11 (eOp2 pIx (eLst (lDisp (aCons (eC (.int 1)) (aCons (eC (.int 0)) (aCons (eC (.str "+")) (aCons (eLst (lDisp (aCons (eC (.bl true)) (aNil)))) (aCons (eOp1 pNeg (eC (.int 1))) (aNil)))))))) (eCallB mTake 2 (aCons (eC (.int 5)) (aNil))))) (sSeq (sSet 12 (eCallB mTake 2 (aCons (eC (.int 4)) (aNil)))) (sSeq (sSet 13 (eLst (lDisp (aCons (eOp2 pAdd (eOp2 pAdd (eSl pSl (eVar 10) (oNone) (oSome (eVar 12))) (eTup (aCons (eVar 11) (aNil)))) (eSl pSl (eVar 10) (oSome (eOp2 pAdd (eVar 12) (eC (.int 1)))) (oNone))) (aCons (eSl pSl (eVar 10) (oSome (eC (.int 1))) (oNone)) (aCons (eOp2 pAdd (eVar 10) (eTup (aCons (eC .non) (aNil)))) (aCons (eLst (lOp1 lList (eVar 10))) (aCons (eC .non) (aCons (eC (.str "+-+-")) (aNil)))))))))) (sSetR 14 (rAdd (eLst (lLc [20] (iSeq (eVar 13)) (gN 20) (gYes) (eOp2 pAdd (eOp2 pAdd (eSl pSl (eVar 4) (oNone) (oSome (eVar 16))) (eTup (aCons (eVar 20) (aNil)))) (eSl pSl (eVar 4) (oSome (eOp2 pAdd (eVar 16) (eC (.int 1)))) (oNone))))) (rDisp (rMl (lOp1 lList (eVar 4)) (rPv (eSl pSl (eVar 4) (oNone) (oSome (eC (.int 3)))) (rPv (eOp2 pAdd (eVar 4) (eSl pSl (eVar 4) (oNone) (oSome (eC (.int 1))))) (rPv (eC .non) (rPv (eVar 5) (rMd (rPv (eTup (aNil)) (rNil)))))))))) (sForS 9 [9, 17] (oSome (eCallB mTake 2 (aCons (eC (.int 7)) (aNil)))) (sSeq (sSet 17 (eCall m__law_asked (aCons (eC (.int 0)) (aCons (eVar 9) (aCons (eVar 3) (aNil)))))) (sIfH (hOr (gVal (eCall m__law_is_table (aCons (eVar 9) (aNil)))) (hOr (gBl (eOp2 pNe (eOp2 pIx (eVar 17) (eC (.int 0))) (eC (.str "table")))) (hNot (hVery r__law_same (eOp2 pIx (eVar 17) (eC (.int 1))) (eVar 9))))) (sRet (eC (.bl false))))))))))))))))))))) (sRet (eC (.bl true)))
def m_law : GF := fnV 21 noPin b_law
theorem fo_law (T : Txt K w mg) (F__law_box : ∀ {B : Addr → Prop}, FvL P w K mg base (cc K B) 1 "_law_box" 1 m__law_box) (F__law_cell : ∀ {B : Addr → Prop}, Fv P w K mg base (cc K B) 1 "_law_cell" 2 m__law_cell) (F__law_take : ∀ {B : Addr → Prop}, Fv P w K mg base (cc K B) 1 "_law_take" 2 mTake) (F__law_text : ∀ {B : Addr → Prop}, Fv P w K mg base (cc K B) 1 "_law_text" 1 m__law_text) (F__law_same : ∀ {B : Addr → Prop}, Fv P w K mg base (cc K B) 13 "_law_same" 2 r__law_same) (F__law_asked : ∀ {B : Addr → Prop}, Fv P w K mg base (cc K B) 5 "_law_asked" 3 m__law_asked) (F__law_read : ∀ {B : Addr → Prop}, Fv P w K mg base (cc K B) 1 "_law_read" 1 m__law_read) (F__law_very : ∀ {B : Addr → Prop}, FvVery P w K mg base (cc K B) 14 "_law_very" r__law_same) (F__law_is_table : ∀ {B : Addr → Prop}, Fv P w K mg base (cc K B) 1 "_law_is_table" 1 m__law_is_table) : ∃ f fd, mg "law" = some (.ref f) ∧ FnOk P w K mg base (L2.CX P w) 15 f fd ["script"] (SpV (cc K B) 1 m_law) ∧ Fun K "law" "law" s_law f fd := by
  obtain ⟨f, fd, hm, Fn⟩ := T.d_law
  exact ⟨f, fd, hm, fn_ok (c := cc K B) (N := ["script", "k", "box", "named", "table", "text", "turn", "sign", "values", "value", "cells", "odd", "late", "rows", "bad", "at", "row", "found", "due", "every", "one"]) (pn := noPin) rfl Fn sc_law rfl (by decide) (fun cdv A outer s H E hr => vss_cons (vs_for (passes_of rfl) rfl (vi_rng rfl T.f_range (ve_callB2 (call_max2 rfl) o_max2 rfl T.f_max b_max (ve_int) (ve_callB2 (call_min2 rfl) o_min2 rfl T.f_min b_min (ve_int) (ve_callB call_len2 (o_len rfl) rfl T.f_len b_len (ve_var (pv 0)))))) (pg_name (i := 1) sc_law.nd rfl (by first | exact .inl rfl | exact .inr rfl)) (tg_name 1) (by decide) (vss_cons (vs_box (i := 2) sc_law.nd rfl (by first | exact .inl rfl | exact .inr rfl) rfl (vl_callF F__law_box hr (by decide) rfl (takes_of rfl rfl rfl rfl) (va_cons (ve_call F__law_cell hr (by decide) rfl (takes_of rfl rfl rfl rfl) (va_cons (ve_var (pv 0)) (va_cons (ve_var (pv 1)) (va_nil)))) (va_nil)))) (vss_cons (vs_set (i := 3) sc_law.nd rfl (by first | exact .inl rfl | exact .inr rfl) rfl (ve_cmp (op_eq2 (hu64 hr)) (o_eq rfl) rfl (ve_callB' F__law_take hr (by decide) rfl (takes_of rfl rfl rfl rfl) (pv 2) (va_cons (ve_int) (va_nil))) (ve_int))) (vss_cons (vs_set (i := 4) sc_law.nd rfl (by first | exact .inl rfl | exact .inr rfl) rfl (ve_callTy call_tuple2 (o_tuple rfl) rfl T.f_tuple b_tuple (ve_lst (vl_lc rfl sc_law.nd (vi_rng rfl T.f_range (ve_int)) (blkOk_by (own := [("every", 19)]) (by kernel_rfl)) (fun _ _ _ _ _ => pg_name (i := 19) sc_law.nd rfl (by first | exact .inl rfl | exact .inr rfl)) (tg_name 19) (fun _ _ _ _ _ => vts_nil) (fun _ _ _ _ _ => ve_callTy call_tuple2 (o_tuple rfl) rfl T.f_tuple b_tuple (ve_lst (vl_lc rfl sc_law.nd (vi_rng rfl T.f_range (ve_int)) (blkOk_by (own := [("late", 12)]) (by kernel_rfl)) (fun _ _ _ _ _ => pg_name (i := 12) sc_law.nd rfl (by first | exact .inl rfl | exact .inr rfl)) (tg_name 12) (fun _ _ _ _ _ => vts_nil) (fun _ _ _ _ _ => ve_ix (ix_4 (hu1 hr)) (o_ix rfl) (ve_lst (vl_disp (va_cons (ve_bl) (va_cons (ve_bl) (va_cons (ve_non) (va_nil)))))) (ve_callB' F__law_take hr (by decide) rfl (takes_W0) (pv 2) (va_cons (ve_int) (va_nil))))))))))) (vss_cons (vs_set (i := 5) sc_law.nd rfl (by first | exact .inl rfl | exact .inr rfl) rfl (ve_call F__law_text hr (by decide) rfl (takes_of rfl rfl rfl rfl) (va_cons (ve_var (pv 4)) (va_nil)))) (vss_cons (vs_for (passes_of rfl) rfl (vi_rng rfl T.f_range (ve_int)) (pg_name (i := 6) sc_law.nd rfl (by first | exact .inl rfl | exact .inr rfl)) (tg_name 6) (by decide) (vss_cons (vs_if (vt_pw (vw_or (vt_not (vt_val rfl (ve_call F__law_same hr (by decide) rfl (takes_of rfl rfl rfl rfl) (va_cons (ve_call F__law_asked hr (by decide) rfl (takes_of rfl rfl rfl rfl) (va_cons (ve_int) (va_cons (ve_var (pv 4)) (va_cons (ve_var (pv 3)) (va_nil))))) (va_cons (ve_lst (vl_disp (va_cons (ve_str) (va_cons (ve_var (pv 5)) (va_nil))))) (va_nil)))))) (vw_or1 (vt_not (vt_val rfl (ve_call F__law_same hr (by decide) rfl (takes_of rfl rfl rfl rfl) (va_cons (ve_call F__law_asked hr (by decide) rfl (takes_of rfl rfl rfl rfl) (va_cons (ve_int) (va_cons (ve_var (pv 5)) (va_cons (ve_not (ve_var (pv 3))) (va_nil))))) (va_cons (ve_lst (vl_disp (va_cons (ve_str) (va_cons (ve_var (pv 4)) (va_nil))))) (va_nil))))))))) (vss_one (vs_ret (ve_bl))) (vss_nil)) (vss_one (vs_set (i := 3) sc_law.nd rfl (by first | exact .inl rfl | exact .inr rfl) rfl (ve_not (ve_var (pv 3))))))) (vss_cons (vs_tgt (ve_tup (va_cons (ve_callB' F__law_take hr (by decide) rfl (takes_of rfl rfl rfl rfl) (pv 2) (va_cons (ve_int) (va_nil))) (va_cons (ve_callB' F__law_take hr (by decide) rfl (takes_of rfl rfl rfl rfl) (pv 2) (va_cons (ve_int) (va_nil))) (va_nil)))) (pg_tup rfl (pgs_cons (pg_name (i := 15) sc_law.nd rfl (by first | exact .inl rfl | exact .inr rfl)) (pgs_cons (pg_name (i := 16) sc_law.nd rfl (by first | exact .inl rfl | exact .inr rfl)) (pgs_nil)))) (tg_tup rfl (.cons (.cons (.nil)))) (by decide)) (vss_cons (vs_set (i := 7) sc_law.nd rfl (by first | exact .inl rfl | exact .inr rfl) rfl (ve_ix (ix_4 (hu1 hr)) (o_ix rfl) (ve_str) (ve_callB' F__law_take hr (by decide) rfl (takes_of rfl rfl rfl rfl) (pv 2) (va_cons (ve_int) (va_nil))))) (vss_cons (vs_set (i := 8) sc_law.nd rfl (by first | exact .inl rfl | exact .inr rfl) rfl (ve_lst (vl_disp (va_cons (ve_op op_add4 (o_add rfl) (ve_op op_add4 (o_add rfl) (ve_slice sl_3 (o_sl rfl) (ve_var (pv 5)) (vo_none) (vo_some (ve_var (pv 15)))) (ve_var (pv 7))) (ve_slice sl_3 (o_sl rfl) (ve_var (pv 5)) (vo_some (ve_op op_add4 (o_add rfl) (ve_var (pv 15)) (ve_int))) (vo_none))) (va_cons (ve_op op_add4 (o_add rfl) (ve_slice sl_3 (o_sl rfl) (ve_var (pv 5)) (vo_none) (vo_some (ve_var (pv 15)))) (ve_slice sl_3 (o_sl rfl) (ve_var (pv 5)) (vo_some (ve_op op_add4 (o_add rfl) (ve_var (pv 15)) (ve_int))) (vo_none))) (va_cons (ve_op op_add4 (o_add rfl) (ve_op op_add4 (o_add rfl) (ve_slice sl_3 (o_sl rfl) (ve_var (pv 5)) (vo_none) (vo_some (ve_var (pv 15)))) (ve_var (pv 7))) (ve_slice sl_3 (o_sl rfl) (ve_var (pv 5)) (vo_some (ve_var (pv 15))) (vo_none))) (va_cons (ve_slice sl_3 (o_sl rfl) (ve_var (pv 5)) (vo_none) (vo_some (ve_un un_neg o_neg (ve_int)))) (va_cons (ve_op op_add4 (o_add rfl) (ve_var (pv 5)) (ve_str)) (va_cons (ve_slice sl_3 (o_sl rfl) (ve_var (pv 5)) (vo_none) (vo_some (ve_int))) (va_cons (ve_op op_add4 (o_add rfl) (ve_var (pv 5)) (ve_slice sl_3 (o_sl rfl) (ve_var (pv 5)) (vo_none) (vo_some (ve_int)))) (va_nil))))))))))) (vss_cons (vs_forR (iv := 9) (is := [9, 18, 17]) (passes_of rfl) rfl (vr_add (ve_var (pv 8)) (vr_slice rfl (vr_disp (vr_pv (ve_non) (vr_pv (ve_var (pv 4)) (vr_pv (ve_str) (vr_pv (ve_int) (vr_ml (vl_disp (va_cons (ve_var (pv 5)) (va_nil))) (vr_nil))))))) (vo_some (ve_callB' F__law_take hr (by decide) rfl (takes_of rfl rfl rfl rfl) (pv 2) (va_cons (ve_int) (va_nil)))))) (pg_name (i := 9) sc_law.nd rfl (by first | exact .inl rfl | exact .inr rfl)) (by decide) (by decide) (fun B => vss_cons (vs_par (i := 18) (j := 17) rfl sc_law.nd rfl rfl (by decide) rfl rfl rfl rfl (ve_call F__law_read hr (by decide) rfl (takes_of rfl rfl rfl rfl) (va_cons (ve_var (pv 9)) (va_nil))) (ve_call F__law_asked hr (by decide) rfl (takes_of rfl rfl rfl rfl) (va_cons (ve_int) (va_cons (ve_var (pv 9)) (va_cons (ve_var (pv 3)) (va_nil))))) rfl) (vss_one (vs_ifH (vh_pw (vh_or (vt_pw (vw_and (vt_cmp op_isNot2 o_isNot rfl (ve_var (pv 18)) (ve_non)) (vw_and1 (vt_not (vt_val rfl (ve_call F__law_same hr (by decide) rfl (takes_of rfl rfl rfl rfl) (va_cons (ve_var (pv 17)) (va_cons (ve_lst (vl_disp (va_cons (ve_str) (va_cons (ve_var (pv 18)) (va_nil))))) (va_nil))))))))) (vh_or1 (vh_pw (vh_and (vt_cmp op_is2 o_is rfl (ve_var (pv 18)) (ve_non)) (vh_and1 (vh_pw (vh_or (vt_cmp (op_ne2 (hu64 hr)) (o_ne rfl) rfl (ve_ix (ix_4 (hu1 hr)) (o_ix rfl) (ve_var (pv 17)) (ve_int)) (ve_str)) (vh_or1 (vh_not (vh_val (ve_very F__law_very hr (by decide) rfl (takes_of rfl rfl rfl rfl) (ve_ix (ix_4 (hu1 hr)) (o_ix rfl) (ve_var (pv 17)) (ve_int)) (ve_var (pv 9)))))))))))))) (vss_one (vs_ret (ve_bl))))))) (vss_cons (vs_set (i := 10) sc_law.nd rfl (by first | exact .inl rfl | exact .inr rfl) rfl (ve_ix (ix_4 (hu1 hr)) (o_ix rfl) (ve_var (pv 4)) (ve_var (pv 16)))) (vss_cons (vs_set (i := 11) sc_law.nd rfl (by first | exact .inl rfl | exact .inr rfl) rfl (ve_ix (ix_4 (hu1 hr)) (o_ix rfl) (ve_lst (vl_disp (va_cons (ve_int) (va_cons (ve_int) (va_cons (ve_str) (va_cons (ve_lst (vl_disp (va_cons (ve_bl) (va_nil)))) (va_cons (ve_un un_neg o_neg (ve_int)) (va_nil)))))))) (ve_callB' F__law_take hr (by decide) rfl (takes_of rfl rfl rfl rfl) (pv 2) (va_cons (ve_int) (va_nil))))) (vss_cons (vs_set (i := 12) sc_law.nd rfl (by first | exact .inl rfl | exact .inr rfl) rfl (ve_callB' F__law_take hr (by decide) rfl (takes_of rfl rfl rfl rfl) (pv 2) (va_cons (ve_int) (va_nil)))) (vss_cons (vs_set (i := 13) sc_law.nd rfl (by first | exact .inl rfl | exact .inr rfl) rfl (ve_lst (vl_disp (va_cons (ve_op op_add4 (o_add rfl) (ve_op op_add4 (o_add rfl) (ve_slice sl_3 (o_sl rfl) (ve_var (pv 10)) (vo_none) (vo_some (ve_var (pv 12)))) (ve_tup (va_cons (ve_var (pv 11)) (va_nil)))) (ve_slice sl_3 (o_sl rfl) (ve_var (pv 10)) (vo_some (ve_op op_add4 (o_add rfl) (ve_var (pv 12)) (ve_int))) (vo_none))) (va_cons (ve_slice sl_3 (o_sl rfl) (ve_var (pv 10)) (vo_some (ve_int)) (vo_none)) (va_cons (ve_op op_add4 (o_add rfl) (ve_var (pv 10)) (ve_tup (va_cons (ve_non) (va_nil)))) (va_cons (ve_lst (vl_callTy call_list2 (o_list rfl) rfl T.f_list b_list (ve_var (pv 10)))) (va_cons (ve_non) (va_cons (ve_str) (va_nil)))))))))) (vss_setR (j := 14) (G := sForS 9 [9, 17] (oSome (eCallB mTake 2 (aCons (eC (.int 7)) (aNil)))) (sSeq (sSet 17 (eCall m__law_asked (aCons (eC (.int 0)) (aCons (eVar 9) (aCons (eVar 3) (aNil)))))) (sIfH (hOr (gVal (eCall m__law_is_table (aCons (eVar 9) (aNil)))) (hOr (gBl (eOp2 pNe (eOp2 pIx (eVar 17) (eC (.int 0))) (eC (.str "table")))) (hNot (hVery r__law_same (eOp2 pIx (eVar 17) (eC (.int 1))) (eVar 9))))) (sRet (eC (.bl false)))))) sc_law.nd rfl (by first | exact .inl rfl | exact .inr rfl) rfl (vr_add (ve_lst (vl_lc rfl sc_law.nd (vi_seq rfl (ve_var (pv 13))) (blkOk_by (own := [("one", 20)]) (by kernel_rfl)) (fun _ _ _ _ _ => pg_name (i := 20) sc_law.nd rfl (by first | exact .inl rfl | exact .inr rfl)) (tg_name 20) (fun _ _ _ _ _ => vts_nil) (fun _ _ _ _ _ => ve_op op_add4 (o_add rfl) (ve_op op_add4 (o_add rfl) (ve_slice sl_3 (o_sl rfl) (ve_var (pv 4)) (vo_none) (vo_some (ve_var (pv 16)))) (ve_tup (va_cons (ve_var (pv 20)) (va_nil)))) (ve_slice sl_3 (o_sl rfl) (ve_var (pv 4)) (vo_some (ve_op op_add4 (o_add rfl) (ve_var (pv 16)) (ve_int))) (vo_none))))) (vr_disp (vr_ml (vl_callTy call_list2 (o_list rfl) rfl T.f_list b_list (ve_var (pv 4))) (vr_pv (ve_slice sl_3 (o_sl rfl) (ve_var (pv 4)) (vo_none) (vo_some (ve_int))) (vr_pv (ve_op op_add4 (o_add rfl) (ve_var (pv 4)) (ve_slice sl_3 (o_sl rfl) (ve_var (pv 4)) (vo_none) (vo_some (ve_int)))) (vr_pv (ve_non) (vr_pv (ve_var (pv 5)) (vr_md (vr_pv (ve_tup (va_nil)) (vr_nil)))))))))) (pss_one (vs_forRS (iv := 9) (is := [9, 17]) (j := 14) rfl (passes_of rfl) rfl (pv 14) (vo_some (ve_callB' F__law_take hr (by decide) rfl (takes_of rfl rfl rfl rfl) (pv 2) (va_cons (ve_int) (va_nil)))) (pg_name (i := 9) sc_law.nd rfl (by first | exact .inl rfl | exact .inr rfl)) (by decide) (by decide) (fun B => vss_cons (vs_set (i := 17) sc_law.nd rfl (by first | exact .inl rfl | exact .inr rfl) rfl (ve_call F__law_asked hr (by decide) rfl (takes_of rfl rfl rfl rfl) (va_cons (ve_int) (va_cons (ve_var (pv 9)) (va_cons (ve_var (pv 3)) (va_nil)))))) (vss_one (vs_ifH (vh_pw (vh_or (vt_val rfl (ve_call F__law_is_table hr (by decide) rfl (takes_of rfl rfl rfl rfl) (va_cons (ve_var (pv 9)) (va_nil)))) (vh_or (vt_cmp (op_ne2 (hu64 hr)) (o_ne rfl) rfl (ve_ix (ix_4 (hu1 hr)) (o_ix rfl) (ve_var (pv 17)) (ve_int)) (ve_str)) (vh_or1 (vh_not (vh_val (ve_very F__law_very hr (by decide) rfl (takes_of rfl rfl rfl rfl) (ve_ix (ix_4 (hu1 hr)) (o_ix rfl) (ve_var (pv 17)) (ve_int)) (ve_var (pv 9))))))))) (vss_one (vs_ret (ve_bl))))))))))))))))))))))) (vss_one (vs_ret (ve_bl)))), Fn⟩
theorem fv_law (T : Txt K w mg) (F__law_box : ∀ {B : Addr → Prop}, FvL P w K mg base (cc K B) 1 "_law_box" 1 m__law_box) (F__law_cell : ∀ {B : Addr → Prop}, Fv P w K mg base (cc K B) 1 "_law_cell" 2 m__law_cell) (F__law_take : ∀ {B : Addr → Prop}, Fv P w K mg base (cc K B) 1 "_law_take" 2 mTake) (F__law_text : ∀ {B : Addr → Prop}, Fv P w K mg base (cc K B) 1 "_law_text" 1 m__law_text) (F__law_same : ∀ {B : Addr → Prop}, Fv P w K mg base (cc K B) 13 "_law_same" 2 r__law_same) (F__law_asked : ∀ {B : Addr → Prop}, Fv P w K mg base (cc K B) 5 "_law_asked" 3 m__law_asked) (F__law_read : ∀ {B : Addr → Prop}, Fv P w K mg base (cc K B) 1 "_law_read" 1 m__law_read) (F__law_very : ∀ {B : Addr → Prop}, FvVery P w K mg base (cc K B) 14 "_law_very" r__law_same) (F__law_is_table : ∀ {B : Addr → Prop}, Fv P w K mg base (cc K B) 1 "_law_is_table" 1 m__law_is_table) : Fv P w K mg base (cc K B) 15 "law" 1 m_law := by
  obtain ⟨f, fd, hm, ok, Fn⟩ := fo_law (P := P) (base := base) (B := B) T F__law_box F__law_cell F__law_take F__law_text F__law_same F__law_asked F__law_read F__law_very F__law_is_table
  exact ⟨f, fd, ["script"], rfl, hm, ok, Fn.kp, Fn.binds fun _ _ _ _ _ _ us hl => match us, hl with | [_], _ => rfl⟩
end
def fa : List He.Fa := [.free "abs", .free "all", .free "bool", .free "dict", .free "int", .free "isinstance", .free "len", .free "list", .free "max", .free "min", .free "range", .free "str", .free "sum", .free "tuple", .int "ROWS" 4, .int "CELLS" 4, .glo "SHOWN", .glo "is_tuple_of", .glo "is_row", .glo "is_table", .glo "char_of", .glo "rate_text", .glo "is_line", .glo "read_rates", .glo "_law_cell", .glo "_law_box", .glo "_law_take", .glo "_law_same", .glo "_law_very", .glo "_law_asked", .glo "_law_is_table", .glo "_law_text", .glo "_law_read", .glo "law", .glo "WireError", .glo "InvalidTable", .glo "InvalidText"]
def fnD : List He.DefD := [
  ⟨("is_tuple_of", none), "is_tuple_of", "is_tuple_of", defArgs s_is_tuple_of, defBody s_is_tuple_of, defScope s_is_tuple_of, [], []⟩,
  ⟨("is_row", none), "is_row", "is_row", defArgs s_is_row, defBody s_is_row, defScope s_is_row, [], []⟩,
  ⟨("is_table", none), "is_table", "is_table", defArgs s_is_table, defBody s_is_table, defScope s_is_table, [], []⟩,
  ⟨("char_of", none), "char_of", "char_of", defArgs s_char_of, defBody s_char_of, defScope s_char_of, [], []⟩,
  ⟨("rate_text", none), "rate_text", "rate_text", defArgs s_rate_text, defBody s_rate_text, defScope s_rate_text, [], []⟩,
  ⟨("is_line", none), "is_line", "is_line", defArgs s_is_line, defBody s_is_line, defScope s_is_line, [], []⟩,
  ⟨("read_rates", none), "read_rates", "read_rates", defArgs s_read_rates, defBody s_read_rates, defScope s_read_rates, [], []⟩,
  ⟨("_law_cell", none), "_law_cell", "_law_cell", defArgs s__law_cell, defBody s__law_cell, defScope s__law_cell, [], []⟩,
  ⟨("_law_box", none), "_law_box", "_law_box", defArgs s__law_box, defBody s__law_box, defScope s__law_box, [], []⟩,
  ⟨("_law_take", none), "_law_take", "_law_take", defArgs s__law_take, defBody s__law_take, defScope s__law_take, [], []⟩,
  ⟨("_law_same", none), "_law_same", "_law_same", defArgs s__law_same, defBody s__law_same, defScope s__law_same, [], []⟩,
  ⟨("_law_very", none), "_law_very", "_law_very", defArgs s__law_very, defBody s__law_very, defScope s__law_very, [], []⟩,
  ⟨("_law_asked", none), "_law_asked", "_law_asked", defArgs s__law_asked, defBody s__law_asked, defScope s__law_asked, [], []⟩,
  ⟨("_law_is_table", none), "_law_is_table", "_law_is_table", defArgs s__law_is_table, defBody s__law_is_table, defScope s__law_is_table, [], []⟩,
  ⟨("_law_text", none), "_law_text", "_law_text", defArgs s__law_text, defBody s__law_text, defScope s__law_text, [], []⟩,
  ⟨("_law_read", none), "_law_read", "_law_read", defArgs s__law_read, defBody s__law_read, defScope s__law_read, [], []⟩,
  ⟨("law", none), "law", "law", defArgs s_law, defBody s_law, defScope s_law, [], []⟩,
  ⟨("InvalidTable", some "__init__"), "__init__", "InvalidTable.__init__", defArgs s_InvalidTable, defBody s_InvalidTable, defScope s_InvalidTable, [], []⟩,
  ⟨("InvalidText", some "__init__"), "__init__", "InvalidText.__init__", defArgs s_InvalidText, defBody s_InvalidText, defScope s_InvalidText, [], []⟩]
def tsD : List He.Tab := [(fun K => He.ga K "SHOWN", ["+", "-", "?"])]
def exB (K : PySem.W.Frag) : Bool := excB K "InvalidTable" "given" && (excB K "InvalidText" "given" && (tabB K (He.ga K "SHOWN") t_SHOWN && (decide (PySem.W.exmOne K (.ref (He.ga K "InvalidTable")) (.ref (He.ga K "WireError")) = some true) && (decide (PySem.W.exmOne K (.ref (He.ga K "InvalidTable")) (.ref (He.ga K "InvalidTable")) = some true) && (decide (PySem.W.exmOne K (.ref (He.ga K "InvalidTable")) (.ref (He.ga K "InvalidText")) = some false) && (decide (PySem.W.exmOne K (.ref (He.ga K "InvalidText")) (.ref (He.ga K "WireError")) = some true) && (decide (PySem.W.exmOne K (.ref (He.ga K "InvalidText")) (.ref (He.ga K "InvalidTable")) = some false) && (decide (PySem.W.exmOne K (.ref (He.ga K "InvalidText")) (.ref (He.ga K "InvalidText")) = some true)))))))))
theorem txt_of {K : PySem.W.Frag} {w : World} {h : Heap} {mg : Str → Option Value} (X : K.In h) (G : h.Ns mainGlobals mg) (c : He.SaysT fa fnD tsD w K) (e : exB K = true) : Txt K w mg := by
  have fx : ∀ i {f : He.Fa}, fa[i]? = some f → f.ok K = true := fun i f q => c.d.fact i q
  obtain ⟨e0, e⟩ := Bool.and_eq_true_iff.mp e
  obtain ⟨e1, e⟩ := Bool.and_eq_true_iff.mp e
  obtain ⟨e2, e⟩ := Bool.and_eq_true_iff.mp e
  obtain ⟨e3, e⟩ := Bool.and_eq_true_iff.mp e
  obtain ⟨e4, e⟩ := Bool.and_eq_true_iff.mp e
  obtain ⟨e5, e⟩ := Bool.and_eq_true_iff.mp e
  obtain ⟨e6, e⟩ := Bool.and_eq_true_iff.mp e
  obtain ⟨e7, e⟩ := Bool.and_eq_true_iff.mp e
  have e8 := e
  exact {
    f_abs := He.free_ok X G (fx 0 rfl)
    f_all := He.free_ok X G (fx 1 rfl)
    f_bool := He.free_ok X G (fx 2 rfl)
    f_dict := He.free_ok X G (fx 3 rfl)
    f_int := He.free_ok X G (fx 4 rfl)
    f_isinstance := He.free_ok X G (fx 5 rfl)
    f_len := He.free_ok X G (fx 6 rfl)
    f_list := He.free_ok X G (fx 7 rfl)
    f_max := He.free_ok X G (fx 8 rfl)
    f_min := He.free_ok X G (fx 9 rfl)
    f_range := He.free_ok X G (fx 10 rfl)
    f_str := He.free_ok X G (fx 11 rfl)
    f_sum := He.free_ok X G (fx 12 rfl)
    f_tuple := He.free_ok X G (fx 13 rfl)
    i_ROWS := He.int_ok X G (fx 14 rfl)
    i_CELLS := He.int_ok X G (fx 15 rfl)
    t_SHOWN := (let ⟨es, n, D⟩ := c.tab 0 rfl; tab_ok (He.glo_ok X G (fx 16 rfl)) D e2)
    d_is_tuple_of := (let ⟨fd, F⟩ := c.d.def_ 0 rfl; ⟨_, fd, He.glo_ok X G (fx 17 rfl), fun_of F⟩)
    d_is_row := (let ⟨fd, F⟩ := c.d.def_ 1 rfl; ⟨_, fd, He.glo_ok X G (fx 18 rfl), fun_of F⟩)
    d_is_table := (let ⟨fd, F⟩ := c.d.def_ 2 rfl; ⟨_, fd, He.glo_ok X G (fx 19 rfl), fun_of F⟩)
    d_char_of := (let ⟨fd, F⟩ := c.d.def_ 3 rfl; ⟨_, fd, He.glo_ok X G (fx 20 rfl), fun_of F⟩)
    d_rate_text := (let ⟨fd, F⟩ := c.d.def_ 4 rfl; ⟨_, fd, He.glo_ok X G (fx 21 rfl), fun_of F⟩)
    d_is_line := (let ⟨fd, F⟩ := c.d.def_ 5 rfl; ⟨_, fd, He.glo_ok X G (fx 22 rfl), fun_of F⟩)
    d_read_rates := (let ⟨fd, F⟩ := c.d.def_ 6 rfl; ⟨_, fd, He.glo_ok X G (fx 23 rfl), fun_of F⟩)
    d__law_cell := (let ⟨fd, F⟩ := c.d.def_ 7 rfl; ⟨_, fd, He.glo_ok X G (fx 24 rfl), fun_of F⟩)
    d__law_box := (let ⟨fd, F⟩ := c.d.def_ 8 rfl; ⟨_, fd, He.glo_ok X G (fx 25 rfl), fun_of F⟩)
    d__law_take := (let ⟨fd, F⟩ := c.d.def_ 9 rfl; ⟨_, fd, He.glo_ok X G (fx 26 rfl), fun_of F⟩)
    d__law_same := (let ⟨fd, F⟩ := c.d.def_ 10 rfl; ⟨_, fd, He.glo_ok X G (fx 27 rfl), fun_of F⟩)
    d__law_very := (let ⟨fd, F⟩ := c.d.def_ 11 rfl; ⟨_, fd, He.glo_ok X G (fx 28 rfl), fun_of F⟩)
    d__law_asked := (let ⟨fd, F⟩ := c.d.def_ 12 rfl; ⟨_, fd, He.glo_ok X G (fx 29 rfl), fun_of F⟩)
    d__law_is_table := (let ⟨fd, F⟩ := c.d.def_ 13 rfl; ⟨_, fd, He.glo_ok X G (fx 30 rfl), fun_of F⟩)
    d__law_text := (let ⟨fd, F⟩ := c.d.def_ 14 rfl; ⟨_, fd, He.glo_ok X G (fx 31 rfl), fun_of F⟩)
    d__law_read := (let ⟨fd, F⟩ := c.d.def_ 15 rfl; ⟨_, fd, He.glo_ok X G (fx 32 rfl), fun_of F⟩)
    d_law := (let ⟨fd, F⟩ := c.d.def_ 16 rfl; ⟨_, fd, He.glo_ok X G (fx 33 rfl), fun_of F⟩)
    g_WireError := He.glo_ok X G (fx 34 rfl)
    g_InvalidTable := He.glo_ok X G (fx 35 rfl)
    g_InvalidText := He.glo_ok X G (fx 36 rfl)
    x_InvalidTable := excB_ok e0
    n_InvalidTable := (let ⟨fd, F⟩ := c.d.def_ 17 rfl; ⟨fd, fun_of F⟩)
    x_InvalidText := excB_ok e1
    n_InvalidText := (let ⟨fd, F⟩ := c.d.def_ 18 rfl; ⟨fd, fun_of F⟩)
    em := fun k j b h => by
      unfold exT at h
      split at h
      · cases h; exact of_decide_eq_true e3
      · cases h; exact of_decide_eq_true e4
      · cases h; exact of_decide_eq_true e5
      · cases h; exact of_decide_eq_true e6
      · cases h; exact of_decide_eq_true e7
      · cases h; exact of_decide_eq_true e8
      · cases h }
section
variable {P : Program} {w : World} {K : PySem.W.Frag} {mg : Str → Option Value} {base : Heap}
theorem all_fv (T : Txt K w mg) (HT : TakesBox m__law_take) (V7 : Very7 r__law_same) {B : Addr → Prop} : ∃ f fd, mg "law" = some (.ref f) ∧ FnOk P w K mg base (L2.CX P w) 15 f fd ["script"] (SpV (cc K B) 1 m_law) ∧ Fun K "law" "law" s_law f fd := by
  have F__law_box : ∀ {B : Addr → Prop}, FvL P w K mg base (cc K B) 1 "_law_box" 1 m__law_box := fv__law_box T
  have F__law_text : ∀ {B : Addr → Prop}, Fv P w K mg base (cc K B) 1 "_law_text" 1 m__law_text := fv__law_text T 
  have F__law_take : ∀ {B : Addr → Prop}, Fv P w K mg base (cc K B) 1 "_law_take" 2 mTake := (fv__law_take T).take HT
  have F__law_cell : ∀ {B : Addr → Prop}, Fv P w K mg base (cc K B) 1 "_law_cell" 2 m__law_cell := fv__law_cell T 
  have F_is_line : ∀ {B : Addr → Prop}, Fv P w K mg base (cc K B) 1 "is_line" 1 m_is_line := fv_is_line T 
  have X_InvalidText : ∀ {B : Addr → Prop}, Ec P w K mg base (cc K B) 1 "InvalidText" 2 "given" := ec_InvalidText T
  have F_read_rates : ∀ {B : Addr → Prop}, Fv P w K mg base (cc K B) 3 "read_rates" 1 m_read_rates := fv_read_rates T F_is_line X_InvalidText
  have K_read_rates_text : ∀ {B : Addr → Prop}, FvK P w K mg base (cc K B) 3 "read_rates" 1 m_read_rates ["text"] [0] := kv_read_rates_text T F_is_line X_InvalidText
  have F_is_tuple_of : ∀ {B : Addr → Prop}, Fv P w K mg base (cc K B) 1 "is_tuple_of" 2 m_is_tuple_of := fv_is_tuple_of T 
  have F_is_row : ∀ {B : Addr → Prop}, Fv P w K mg base (cc K B) 2 "is_row" 1 m_is_row := fv_is_row T F_is_tuple_of
  have F_is_table : ∀ {B : Addr → Prop}, Fv P w K mg base (cc K B) 3 "is_table" 1 m_is_table := fv_is_table T F_is_tuple_of F_is_row
  have F_char_of : ∀ {B : Addr → Prop}, Fv P w K mg base (cc K B) 1 "char_of" 1 m_char_of := fv_char_of T 
  have X_InvalidTable : ∀ {B : Addr → Prop}, Ec P w K mg base (cc K B) 1 "InvalidTable" 1 "given" := ec_InvalidTable T
  have F_rate_text : ∀ {B : Addr → Prop}, Fv P w K mg base (cc K B) 4 "rate_text" 1 m_rate_text := fv_rate_text T F_is_table X_InvalidTable F_char_of
  have K_rate_text_table : ∀ {B : Addr → Prop}, FvK P w K mg base (cc K B) 4 "rate_text" 1 m_rate_text ["table"] [0] := kv_rate_text_table T F_is_table X_InvalidTable F_char_of
  have F__law_asked : ∀ {B : Addr → Prop}, Fv P w K mg base (cc K B) 5 "_law_asked" 3 m__law_asked := fv__law_asked T F_rate_text K_rate_text_table F_read_rates K_read_rates_text
  have F__law_read : ∀ {B : Addr → Prop}, Fv P w K mg base (cc K B) 1 "_law_read" 1 m__law_read := fv__law_read T 
  have F__law_is_table : ∀ {B : Addr → Prop}, Fv P w K mg base (cc K B) 1 "_law_is_table" 1 m__law_is_table := fv__law_is_table T 
  have F__law_same : ∀ {B : Addr → Prop}, Fv P w K mg base (cc K B) 13 "_law_same" 2 r__law_same := fv__law_same T 
  have F__law_very : ∀ {B : Addr → Prop}, FvVery P w K mg base (cc K B) 14 "_law_very" r__law_same := fv__law_very T V7 F__law_same
  exact fo_law T F__law_box F__law_cell F__law_take F__law_text F__law_same F__law_asked F__law_read F__law_very F__law_is_table
end
end k54

set_option Elab.async false
set_option linter.all false
set_option maxRecDepth 100000
set_option maxHeartbeats 1000000
namespace k54
open PySem PySem.Spec PyProof.Rows L2 VL
theorem log2_lt' {n m : Nat} (h : n < 2 ^ m) (hm : 0 < m) : n.log2 < m := by
  by_cases h0 : n = 0
  · subst h0; rw [show Nat.log2 0 = 0 from by decide]; exact hm
  · exact (Nat.log2_lt h0).mpr h
theorem mul_ok {i j : Int} (hi : i.natAbs < 2 ^ 64) (hj : j.natAbs < 2 ^ 64) : pMul (.int i) (.int j) = some (.int (i * j)) := by
  have h1 := log2_lt' hi (by decide)
  have h2 := log2_lt' hj (by decide)
  unfold pMul
  dsimp only
  rw [if_pos (by omega)]
theorem pow_ok {i : Int} {j : Nat} (hj : j ≤ 1000000) (hi : i.natAbs < 18446744073709551616) : pPow (.int i) (.int j) = some (.int (i ^ j)) := by
  unfold pPow
  dsimp only
  rw [if_pos ⟨by omega, by omega, by rw [show (2 : Nat) ^ 64 = 18446744073709551616 from by decide]; exact hi⟩, Int.toNat_natCast]
theorem mod_ok {i j : Int} (hj : 0 < j) : pMod (.int i) (.int j) = some (.int (i % j)) := by
  unfold pMod; dsimp only; rw [if_pos hj]
theorem fdiv_ok {i j : Int} (hj : 0 < j) (h : j < 1073741824) : pFdiv (.int i) (.int j) = some (.int (i / j)) := by
  unfold pFdiv; dsimp only; rw [if_pos ⟨hj, h⟩]
theorem take_ok : TakesBox m__law_take := by
  intro a b d k n many K E ha hd hd2 hk hkn hm hm2 hn h
  have e1 : ixN 4 0 = some 0 := rfl
  have e2 : ixN 4 1 = some 1 := rfl
  have e3 : ixN 4 2 = some 2 := rfl
  have e4 : ixN 4 3 = some 3 := rfl
  unfold m__law_take
  rw [fnV_eq rfl]
  by_cases hb : b = true ∧ 0 < a
  · obtain ⟨rfl, hb⟩ := hb
    have q := h (a / many) true d k (a % many) (Int.ediv_nonneg ha (by omega)) hd hd2 hk (by omega) (Int.emod_nonneg _ (by omega)) (Int.emod_lt_of_pos _ hm)
    simp [b__law_take, ownAt, SV.own, pIx, atI, e1, e2, e3, e4, truth, pGt, mod_ok hm, pInt, fdiv_ok hm hm2, hb, outs, q]
  · have m1 : pMul (.int 15485863) (.int (k + 1)) = some (.int (15485863 * (k + 1))) := mul_ok (by decide) (by omega)
    have p1 : pPow (.int (d + 15485863 * (k + 1) + 179424673)) (.int 5) = some (.int ((d + 15485863 * (k + 1) + 179424673) ^ 5)) := pow_ok (j := 5) (by decide) (by omega)
    obtain ⟨x, hx⟩ : ∃ x : Int, x = (d + 15485863 * (k + 1) + 179424673) ^ 5 := ⟨_, rfl⟩
    rw [← hx] at p1
    have o1 : pMod (.int x) (.int 2147483647) = some (.int (x % 2147483647)) := mod_ok (by decide)
    obtain ⟨y, hy⟩ : ∃ y : Int, y = x % 2147483647 := ⟨_, rfl⟩
    have y0 : 0 ≤ y ∧ y < 2147483647 := by omega
    rw [← hy] at o1
    have m2 : pMul (.int y) (.int 48271) = some (.int (y * 48271)) := mul_ok (by omega) (by decide)
    have m3 : pMul (.int 104729) (.int (k + 1)) = some (.int (104729 * (k + 1))) := mul_ok (by decide) (by omega)
    have p2 : pPow (.int (y * 48271 + 104729 * (k + 1))) (.int 3) = some (.int ((y * 48271 + 104729 * (k + 1)) ^ 3)) := pow_ok (j := 3) (by decide) (by omega)
    obtain ⟨z, hz⟩ : ∃ z : Int, z = (y * 48271 + 104729 * (k + 1)) ^ 3 := ⟨_, rfl⟩
    rw [← hz] at p2
    have o2 : pMod (.int z) (.int 2147483587) = some (.int (z % 2147483587)) := mod_ok (by decide)
    have o3 : pFdiv (.int (z % 2147483587)) (.int 64) = some (.int (z % 2147483587 / 64)) := fdiv_ok (by decide) (by decide)
    have q := h a b d (k + 1) (z % 2147483587 / 64 % many) ha hd hd2 (by omega) (by omega) (Int.emod_nonneg _ (by omega)) (Int.emod_lt_of_pos _ hm)
    have hb' : b = true → ¬ 0 < a := fun h1 h2 => hb ⟨h1, h2⟩
    cases b with
    | false => simp [b__law_take, ownAt, SV.own, pIx, atI, e1, e2, e3, e4, truth, pAdd, m1, p1, pInt, o1, m2, m3, p2, o2, o3, mod_ok hm, outs, q]
    | true => simp [b__law_take, ownAt, SV.own, pIx, atI, e1, e2, e3, e4, truth, pGt, hb' rfl, pAdd, m1, p1, pInt, o1, m2, m3, p2, o2, o3, mod_ok hm, outs, q]

/-! ### tables of rates -/
def cellPV : Option Bool → PV
  | none => .non
  | some b => .bl b
def rowPV (r : List (Option Bool)) : PV := .tup (r.map cellPV)
def tabPV (t : List (List (Option Bool))) : PV := .tup (t.map rowPV)
def ch : Option Bool → Nat
  | none => 63
  | some true => 43
  | some false => 45
def txt (t : List (List (Option Bool))) : List Nat := t.flatMap fun r => r.map ch ++ [10]
def Tab (t : List (List (Option Bool))) : Prop := t.length = 4 ∧ ∀ r ∈ t, r.length = 4
def kn : PV → Bool
  | .any => false
  | .ins _ _ => false
  | .scr _ => false
  | _ => true
def isC : PV → Bool
  | .non => true
  | .bl _ => true
  | _ => false
def rowB : PV → Bool
  | .tup xs => decide (xs.length = 4) && xs.all isC
  | _ => false
def tabB' : PV → Bool
  | .tup xs => decide (xs.length = 4) && xs.all rowB
  | _ => false
/-- enough is known of a row, of a table -/
def kn1 : PV → Bool
  | .tup xs => decide (xs.length ≤ 16777216) && xs.all kn
  | .lst _ xs => decide (xs.length ≤ 16777216)
  | .str x => decide (x.length ≤ 16777216)
  | v => kn v
def kn2 : PV → Bool
  | .tup xs => decide (xs.length ≤ 16777216) && xs.all kn1
  | .lst _ xs => decide (xs.length ≤ 16777216)
  | .str x => decide (x.length ≤ 16777216)
  | v => kn v
def isTu : PV → Bool
  | .tup _ => true
  | _ => false
def isB : PV → Bool
  | .bl _ => true
  | _ => false
def isN : PV → Bool
  | .non => true
  | _ => false
def tup4 : PV → Bool
  | .tup xs => decide (xs.length = 4)
  | _ => false
theorem isT_tup (v : PV) (h : kn v = true) : isT "tuple" v = some (isTu v) := by
  cases v <;> first | (simp [isT, tyN, isTu]; done) | cases h
theorem isT_bool (v : PV) (h : kn v = true) : isT "bool" v = some (isB v) := by
  cases v <;> first | (simp [isT, tyN, isB]; done) | cases h
theorem pIs_non (v : PV) (h : kn v = true) : pIs v .non = some (.bl (isN v)) := by
  cases v <;> first | rfl | cases h
theorem pIsNot_non (v : PV) (h : kn v = true) : pIsNot v .non = some (.bl (!isN v)) := by
  cases v <;> first | rfl | cases h
theorem kn1_kn {v : PV} (h : kn1 v = true) : kn v = true := by cases v <;> first | exact h | rfl
theorem kn2_kn {v : PV} (h : kn2 v = true) : kn v = true := by cases v <;> first | exact h | rfl
theorem pEq_int (a b : Int) : pEq (.int a) (.int b) = some (.bl (decide (a = b))) := by simp [pEq, eqB]
theorem pNe_int (a b : Int) : pNe (.int a) (.int b) = some (.bl (!decide (a = b))) := by simp [pNe, eqB]
theorem itp (v : PV) (h : kn v = true) : m_is_tuple_of [.fz v, .fz (.int 4)] = .ret (.bl (tup4 v), [.un, .un]) := by
  unfold m_is_tuple_of
  rw [fnV_eq rfl]
  have e := isT_tup v h
  cases v with
  | tup xs =>
    have e2 : ((xs.length : Int) = 4) ↔ (xs.length = 4) := by omega
    simp [b_is_tuple_of, pIsi, e, outs, SV.own, isTu, tup4, pLen, pEq_int, e2]
  | _ => first | (simp [b_is_tuple_of, pIsi, e, outs, SV.own, isTu, tup4]; done) | cases h
theorem cell_ok (v : PV) (h : kn v = true) (ρ : Env') (hi : ρ[1]? = some (.fz v)) : eOr (eOp2 pIs (eVar 1) (eC .non)) (eOp1 (pIsi "bool") (eVar 1)) ρ = .ret (.bl (isC v), ρ) := by
  have e := isT_bool v h
  have e2 := pIs_non v h
  cases v <;> first | (simp [hi, e, e2, pIsi, isC, isN, isB]; done) | cases h
theorem blsOf_map (bs : List Bool) : blsOf (bs.map PV.bl) = some bs := by
  induction bs with
  | nil => rfl
  | cons b bs ih => show (blsOf (bs.map PV.bl)).map (fun ns => b :: ns) = _; rw [ih]; rfl
theorem pAll_bl (xs : List PV) (f : PV → Bool) : pAll (.lst none (xs.map fun x => PV.bl (f x))) = some (.bl (xs.all f)) := by
  have e : (xs.map fun x => PV.bl (f x)) = (xs.map f).map PV.bl := by rw [List.map_map]; rfl
  rw [e]
  show (blsOf _).map _ = _
  rw [blsOf_map]
  simp [List.all_map]
theorem is_row_ok (v : PV) (h : kn1 v = true) : m_is_row [.fz v] = .ret (.bl (rowB v), [.un]) := by
  unfold m_is_row
  rw [fnV_eq rfl]
  have k := kn1_kn h
  have e := itp v k
  cases v with
  | tup xs =>
    have h' : xs.length ≤ 16777216 ∧ xs.all kn = true := by simpa [kn1] using h
    have q := lLc_map (i := 1) (gi := iSeq (eVar 0)) (ge := eOr (eOp2 pIs (eVar 1) (eC .non)) (eOp1 (pIsi "bool") (eVar 1))) (ρ := [.fz (.tup xs), .un]) (xs := xs) (fun x => .bl (isC x)) (by simp [items]) (sl_le h'.1) rfl
      (fun x hx => cell_ok x (List.all_eq_true.mp h'.2 x hx) _ rfl)
    cases h4 : decide (xs.length = 4) with
    | true => simp [b_is_row, fzs, e, tup4, h4, q, pAll_bl, outs, SV.own, rowB]
    | false => simp [b_is_row, fzs, e, tup4, h4, outs, SV.own, rowB]
  | _ => first | (simp [b_is_row, fzs, e, tup4, outs, SV.own, rowB]; done) | cases k
theorem is_table_ok (v : PV) (h : kn2 v = true) : m_is_table [.fz v] = .ret (.bl (tabB' v), [.un]) := by
  unfold m_is_table
  rw [fnV_eq rfl]
  have k := kn2_kn h
  have e := itp v k
  cases v with
  | tup xs =>
    have h' : xs.length ≤ 16777216 ∧ xs.all kn1 = true := by simpa [kn2] using h
    have q := lLc_map (i := 1) (gi := iSeq (eVar 0)) (ge := eCall m_is_row (aCons (eVar 1) aNil)) (ρ := [.fz (.tup xs), .un]) (xs := xs) (fun x => .bl (rowB x)) (by simp [items]) (sl_le h'.1) rfl
      (fun x hx => by simp [fzs, is_row_ok x (List.all_eq_true.mp h'.2 x hx)])
    cases h4 : decide (xs.length = 4) with
    | true => simp [b_is_table, fzs, e, tup4, h4, q, pAll_bl, outs, SV.own, tabB']
    | false => simp [b_is_table, fzs, e, tup4, h4, outs, SV.own, tabB']
  | _ => first | (simp [b_is_table, fzs, e, tup4, outs, SV.own, tabB']; done) | cases k

/-! ### texts of tables -/
theorem S_nil : (PySem.Str.ofString "") = S [] := by decide +kernel
theorem S_q : (PySem.Str.ofString "?") = S [63] := by decide +kernel
theorem S_p : (PySem.Str.ofString "+") = S [43] := by decide +kernel
theorem S_m : (PySem.Str.ofString "-") = S [45] := by decide +kernel
theorem S_n : (PySem.Str.ofString "\n") = S [10] := by decide +kernel
theorem join_S (ls : List (List Nat)) : Txt.join (S []) (ls.map S) = S ls.flatten := by
  show Builtin.Str.glued _ _ = _
  rw [StrLaws.glued_eq_join]
  induction ls with
  | nil => rfl
  | cons l ls ih =>
    cases ls with
    | nil => show S l = S (l ++ []); rw [List.append_nil]
    | cons l2 ls =>
      show S l ++ S [] ++ Str.join (S []) ((l2 :: ls).map S) = _
      rw [ih, S_append, S_append, List.append_nil]
      rfl
theorem strsOf_S (ls : List (List Nat)) : strsOf (ls.map fun l => PV.str (S l)) = some (ls.map S) := by
  induction ls with
  | nil => rfl
  | cons l ls ih => show (strsOf (ls.map fun l => PV.str (S l))).map (fun ns => S l :: ns) = _; rw [ih]; rfl
theorem sum_S (ls : List (List Nat)) : ((ls.map S).map (·.length)).sum = ls.flatten.length := by
  induction ls with
  | nil => rfl
  | cons l ls ih => simp only [List.map_cons, List.sum_cons, ih, List.flatten_cons, List.length_append, S_len]
theorem pJoin_S (ls : List (List Nat)) (h : ls.flatten.length ≤ 16777216) : pJoin (.str (S [])) (.lst none (ls.map fun l => PV.str (S l))) = some (.str (S ls.flatten)) := by
  show (strsOf _).bind _ = _
  rw [strsOf_S]
  simp only [Option.bind_some]
  rw [sum_S, if_pos (by rw [S_len]; simpa using h), join_S]
theorem char_ok (o : Option Bool) : m_char_of [.fz (cellPV o)] = .ret (.str (S [ch o]), [.un]) := by
  unfold m_char_of
  rw [fnV_eq rfl]
  rcases o with _ | _ | _
  · simp [b_char_of, cellPV, pIs, outs, SV.own, ch, S_q]
  · simp [b_char_of, cellPV, pIs, outs, SV.own, ch, S_m, truth]
  · simp [b_char_of, cellPV, pIs, outs, SV.own, ch, S_p, truth]
theorem isC_cell (o : Option Bool) : isC (cellPV o) = true := by rcases o with _ | _ <;> rfl
theorem kn_cell (o : Option Bool) : kn (cellPV o) = true := by rcases o with _ | _ <;> rfl
theorem row_kn {r : List (Option Bool)} (h : r.length = 4) : kn1 (rowPV r) = true ∧ rowB (rowPV r) = true := by
  constructor
  · simp [kn1, rowPV, h, List.all_map, kn_cell]
  · simp [rowB, rowPV, h, List.all_map, isC_cell]
theorem tab_kn {t : List (List (Option Bool))} (h : Tab t) : kn2 (tabPV t) = true ∧ tabB' (tabPV t) = true := by
  obtain ⟨h1, h2⟩ := h
  have a : ∀ r ∈ t, kn1 (rowPV r) = true ∧ rowB (rowPV r) = true := fun r hr => row_kn (h2 r hr)
  constructor
  · simp only [kn2, tabPV, List.length_map, h1, List.all_map, Bool.and_eq_true, decide_eq_true_eq, List.all_eq_true]
    exact ⟨by decide, fun r hr => (a r hr).1⟩
  · simp only [tabB', tabPV, List.length_map, h1, List.all_map, Bool.and_eq_true, decide_eq_true_eq, List.all_eq_true]
    exact ⟨by decide, fun r hr => (a r hr).2⟩
theorem rate_bad (v : PV) (h : kn2 v = true) (hb : tabB' v = false) : m_rate_text [.fz v] = .raise (⟨1, [("given", v)]⟩, [.un]) := by
  unfold m_rate_text
  rw [fnV_eq rfl]
  simp [b_rate_text, fzs, is_table_ok v h, hb, truth, outs, SV.own]
theorem flat1 (r : List (Option Bool)) : (r.map fun o => [ch o]).flatten = r.map ch := by induction r <;> simp_all
theorem row_txt {r : List (Option Bool)} (h : r.length = 4) (ρ : Env') (h1 : ρ[1]? = some (.fz (rowPV r))) (h2 : ρ[2]? = some .un) :
    eOp2 pAdd (eStrM pJoin (eC (.str "")) (eLst (lLc [2] (iSeq (eVar 1)) (gN 2) gYes (eCall m_char_of (aCons (eVar 2) aNil))))) (eC (.str "\n")) ρ = .ret (.str (S (r.map ch ++ [10])), ρ) := by
  have hl : 2 < ρ.length := (List.getElem?_eq_some_iff.mp h2).1
  have q := lLc_map (i := 2) (gi := iSeq (eVar 1)) (ge := eCall m_char_of (aCons (eVar 2) aNil)) (ρ := ρ) (xs := r.map cellPV) (fun x => match x with | .bl true => .str (S [43]) | .bl false => .str (S [45]) | _ => .str (S [63])) (by simp [h1, rowPV, items]) (sl_le (by simp [h])) (by unfold ownAt; rw [h2]; rfl)
    (fun x hx => by
      obtain ⟨o, _, rfl⟩ := List.mem_map.mp hx
      have e := char_ok o
      rcases o with _ | _ | _ <;> simp [List.getElem?_set_self hl, fzs] <;> simp only [cellPV] at e ⊢ <;> rw [e] <;> simp [ch, cellPV])
  have e1 : (r.map cellPV).map (fun x => match x with | .bl true => PV.str (S [43]) | .bl false => .str (S [45]) | _ => .str (S [63])) = (r.map fun o => [ch o]).map fun l => PV.str (S l) := by
    rw [List.map_map, List.map_map]
    refine List.map_congr_left fun o _ => ?_
    rcases o with _ | _ | _ <;> rfl
  rw [e1] at q
  have e2 := flat1 r
  have e3 := pJoin_S (r.map fun o => [ch o]) (by rw [e2]; simp [h])
  rw [e2] at e3
  have e4 : pAdd (.str (S (r.map ch))) (.str (S [10])) = some (.str (S (r.map ch ++ [10]))) := by
    have hz : (S (r.map ch)).length + (S [10]).length ≤ sizeLine := sl_le (by rw [S_len, S_len]; simp [h])
    show (if (S (r.map ch)).length + (S [10]).length ≤ sizeLine then some (PV.str (S (r.map ch) ++ S [10])) else none) = _
    rw [if_pos hz, S_append]
  simp only [c_eOp2, c_eStrM, c_eC, Wp.ret_bind, isStr, if_true, c_eLst, q, S_nil, e3, lift_some, S_n, e4]
theorem txt_len {t : List (List (Option Bool))} (h : Tab t) : (txt t).length = 20 := by
  obtain ⟨h1, h2⟩ := h
  match t, h1 with
  | [a, b, c, d], _ =>
    have e1 := h2 a (by simp)
    have e2 := h2 b (by simp)
    have e3 := h2 c (by simp)
    have e4 := h2 d (by simp)
    simp [txt, e1, e2, e3, e4]
theorem rate_ok {t : List (List (Option Bool))} (h : Tab t) : m_rate_text [.fz (tabPV t)] = .ret (.str (S (txt t)), [.un]) := by
  unfold m_rate_text
  rw [fnV_eq rfl]
  obtain ⟨k, tb⟩ := tab_kn h
  have q := lLc_map (i := 1) (gi := iSeq (eVar 0)) (ge := eOp2 pAdd (eStrM pJoin (eC (.str "")) (eLst (lLc [2] (iSeq (eVar 1)) (gN 2) gYes (eCall m_char_of (aCons (eVar 2) aNil))))) (eC (.str "\n"))) (ρ := [.fz (tabPV t), .un, .un]) (xs := t.map rowPV)
    (fun x => match x with | .tup cs => .str (S (cs.map (fun c => match c with | .bl true => 43 | .bl false => 45 | _ => 63) ++ [10])) | _ => .non) (by simp [tabPV, items]) (sl_le (by simp [h.1])) rfl
    (fun x hx => by
      obtain ⟨r, hr, rfl⟩ := List.mem_map.mp hx
      have e := row_txt (h.2 r hr) [.fz (tabPV t), .fz (rowPV r), .un] rfl rfl
      have e2 : (r.map cellPV).map (fun c => match c with | .bl true => 43 | .bl false => 45 | _ => 63) = r.map ch := by
        rw [List.map_map]
        refine List.map_congr_left fun o _ => ?_
        rcases o with _ | _ | _ <;> rfl
      show _ = Wp.ret (PV.str (S ((r.map cellPV).map _ ++ [10])), _)
      rw [e2]
      exact e)
  have e1 : (t.map rowPV).map (fun x => match x with | .tup cs => PV.str (S (cs.map (fun c => match c with | .bl true => 43 | .bl false => 45 | _ => 63) ++ [10])) | _ => .non) = (t.map fun r => r.map ch ++ [10]).map fun l => PV.str (S l) := by
    rw [List.map_map, List.map_map]
    refine List.map_congr_left fun r _ => ?_
    have e2 : (r.map cellPV).map (fun c => match c with | .bl true => 43 | .bl false => 45 | _ => 63) = r.map ch := by
      rw [List.map_map]
      refine List.map_congr_left fun o _ => ?_
      rcases o with _ | _ | _ <;> rfl
    show PV.str (S ((r.map cellPV).map _ ++ [10])) = _
    rw [e2]
    rfl
  rw [e1] at q
  have e3 := pJoin_S (t.map fun r => r.map ch ++ [10]) (by rw [← List.flatMap_def]; exact (txt_len h) ▸ (by decide : 20 ≤ 16777216))
  rw [← List.flatMap_def] at e3
  have e4 : pJoin (.str (S [])) (.lst none ((t.map fun r => r.map ch ++ [10]).map fun l => PV.str (S l))) = some (.str (S (txt t))) := e3
  rw [← S_nil] at e4
  simp [b_rate_text, fzs, is_table_ok _ k, tb, truth, isStr, q, e4, outs, SV.own, -List.map_map]
/-- a row of which the law can tell whether it is one -/
def rk (y : PV) : Prop := kn1 y = true ∧ ∀ xs, y = .tup xs → xs.length = 4 → eqB (.lst none (xs.filter fun x => !isC x)) (.lst none []) = some (xs.all isC)
theorem isC_def (x : PV) (h : kn x = true) : (!isN x && !isB x) = !isC x := by cases x <;> first | rfl | cases h
theorem rowlaw (y : PV) (h : rk y) (ρ : Env') (h1 : ρ[1]? = some (.fz y)) (h2 : ρ[2]? = some .un) :
    gOr (gNot (gVal (eOp1 (pIsi "tuple") (eVar 1)))) (gOr (gBl (eOp2 pNe (eOp1 pLen (eVar 1)) (eC (.int 4)))) (gBl (eOp2 pNe (eLst (lLc [2] (iSeq (eVar 1)) (gN 2) (gAnd (gBl (eOp2 pIsNot (eVar 2) (eC .non))) (gNot (gVal (eOp1 (pIsi "bool") (eVar 2))))) (eVar 2))) (eLst (lDisp aNil))))) ρ = .ret (!rowB y, ρ) := by
  obtain ⟨k1, hf⟩ := h
  have k := kn1_kn k1
  have e := isT_tup y k
  have hl : 2 < ρ.length := (List.getElem?_eq_some_iff.mp h2).1
  cases y with
  | tup xs =>
    have h' : xs.length ≤ 16777216 ∧ xs.all kn = true := by simpa [kn1] using k1
    have e2 : ((xs.length : Int) = 4) ↔ (xs.length = 4) := by omega
    cases h4 : decide (xs.length = 4) with
    | false =>
      have h5 : ¬ xs.length = 4 := by simpa using h4
      simp [h1, pIsi, e, isTu, truth, pLen, pNe_int, e2, h5, rowB]
    | true =>
      have h5 : xs.length = 4 := by simpa using h4
      have q := lLc_pure (i := 2) (gi := iSeq (eVar 1)) (gt := gAnd (gBl (eOp2 pIsNot (eVar 2) (eC .non))) (gNot (gVal (eOp1 (pIsi "bool") (eVar 2))))) (ge := eVar 2) (ρ := ρ) (xs := xs) (fun x => !isC x) id (by simp [h1, items]) (sl_le h'.1) (by unfold ownAt; rw [h2]; rfl)
        (fun x hx => by
          have kx := List.all_eq_true.mp h'.2 x hx
          have a1 := pIsNot_non x kx
          have a2 := isT_bool x kx
          refine ⟨?_, fun _ => by simp [List.getElem?_set_self hl]⟩
          rw [← isC_def x kx]
          cases hn : isN x <;> simp [List.getElem?_set_self hl, a1, hn, pIsi, a2, truth])
      have hq := hf xs rfl h5
      have a3 : pNe (.lst none (xs.filter fun x => !isC x)) (.lst none []) = some (.bl (!xs.all isC)) := by unfold pNe; rw [hq]; rfl
      rw [List.map_id] at q
      simp [h1, pIsi, e, isTu, truth, pLen, pNe_int, e2, h5, q, a3, rowB]
  | _ => first | (simp [h1, pIsi, e, isTu, truth, rowB]; done) | cases k
theorem lawtab_ok (v : PV) (h : kn2 v = true) (hr : ∀ xs, v = .tup xs → xs.length = 4 → ∀ y ∈ xs, rk y) : m__law_is_table [.fz v] = .ret (.bl (tabB' v), [.un]) := by
  unfold m__law_is_table
  rw [fnV_eq rfl]
  have k := kn2_kn h
  have e := isT_tup v k
  cases v with
  | tup xs =>
    have h' : xs.length ≤ 16777216 ∧ xs.all kn1 = true := by simpa [kn2] using h
    have e2 : ((xs.length : Int) = 4) ↔ (xs.length = 4) := by omega
    cases h4 : decide (xs.length = 4) with
    | false => 
      have h5 : ¬ xs.length = 4 := by simpa using h4
      simp [b__law_is_table, pIsi, e, isTu, truth, pLen, pNe_int, e2, h5, outs, SV.own, tabB']
    | true =>
      have h5 : xs.length = 4 := by simpa using h4
      have loop : ∀ (ys : List PV) (ρ : Env'), (∀ y ∈ ys, rk y) → (ρ.length = 3 ∧ ρ[2]? = some .un) → ∃ ρ', forLoop (gN 1) (sIf (gOr (gNot (gVal (eOp1 (pIsi "tuple") (eVar 1)))) (gOr (gBl (eOp2 pNe (eOp1 pLen (eVar 1)) (eC (.int 4)))) (gBl (eOp2 pNe (eLst (lLc [2] (iSeq (eVar 1)) (gN 2) (gAnd (gBl (eOp2 pIsNot (eVar 2) (eC .non))) (gNot (gVal (eOp1 (pIsi "bool") (eVar 2))))) (eVar 2))) (eLst (lDisp (aNil))))))) (sRet (eC (.bl false))) (sNil)) ys ρ = .ret (if ys.all rowB = true then .nx ρ' else .rt (.bl false) ρ') := by
        intro ys
        induction ys with
        | nil => intro ρ _ _; exact ⟨ρ, rfl⟩
        | cons y ys ih =>
          intro ρ hy hρ
          have r := rowlaw y (hy y List.mem_cons_self) (ρ.set 1 (.fz y)) (List.getElem?_set_self (by omega)) (by rw [List.getElem?_set_ne (by decide)]; exact hρ.2)
          unfold forLoop
          cases hb : rowB y with
          | true =>
            obtain ⟨ρ', hi⟩ := ih (ρ.set 1 (.fz y)) (fun z hz => hy z (List.mem_cons_of_mem _ hz)) ⟨by rw [List.length_set]; exact hρ.1, by rw [List.getElem?_set_ne (by decide)]; exact hρ.2⟩
            refine ⟨ρ', ?_⟩
            rw [hb] at r
            simp only [gN, c_sIf, r, Wp.ret_bind, Bool.not_true, Bool.false_eq_true, if_false, c_sNil, hi, List.all_cons, hb, Bool.true_and]
          | false =>
            refine ⟨ρ.set 1 (.fz y), ?_⟩
            rw [hb] at r
            simp only [gN, c_sIf, r, Wp.ret_bind, Bool.not_false, if_true, c_sRet, c_eC, List.all_cons, hb, Bool.false_and, Bool.false_eq_true, if_false]
      obtain ⟨ρ', hl⟩ := loop xs [.fz (.tup xs), .un, .un] (hr xs rfl h5) ⟨rfl, rfl⟩
      cases ha : xs.all rowB with
      | true =>
        rw [ha] at hl
        simp [b__law_is_table, pIsi, e, isTu, truth, pLen, pNe_int, e2, h5, items, hl, outs, SV.own, tabB', ha]
      | false =>
        rw [ha] at hl
        simp [b__law_is_table, pIsi, e, isTu, truth, pLen, pNe_int, e2, h5, items, hl, outs, SV.own, tabB', ha]
  | _ => first | (simp [b__law_is_table, pIsi, e, isTu, truth, outs, SV.own, tabB']; done) | cases k
theorem pAdd_S (a b : List Nat) (h : a.length + b.length ≤ 16777216) : pAdd (.str (S a)) (.str (S b)) = some (.str (S (a ++ b))) := by
  have hz : (S a).length + (S b).length ≤ sizeLine := sl_le (by rw [S_len, S_len]; exact h)
  show (if (S a).length + (S b).length ≤ sizeLine then some (PV.str (S a ++ S b)) else none) = _
  rw [if_pos hz, S_append]
abbrev bIn : GS := sSet 1 (eOp2 pAdd (eVar 1) (eIf (gBl (eOp2 pIs (eVar 3) (eC .non))) (eC (.str "?")) (eIf (gVal (eVar 3)) (eC (.str "+")) (eC (.str "-")))))
theorem cells_loop (v0 a2 : SV) : ∀ (r : List (Option Bool)) (l : List Nat) (a3 : SV), l.length + r.length ≤ 16777216 → ∃ a3', forLoop (gN 3) bIn (r.map cellPV) [v0, .fz (.str (S l)), a2, a3] = .ret (.nx [v0, .fz (.str (S (l ++ r.map ch))), a2, a3'])
  | [], l, a3, _ => ⟨a3, by simp [forLoop]⟩
  | o :: r, l, a3, h => by
    have h' : l.length + (r.length + 1) ≤ 16777216 := by simpa using h
    obtain ⟨a3', e⟩ := cells_loop v0 a2 r (l ++ [ch o]) (.fz (cellPV o)) (by simp; omega)
    refine ⟨a3', ?_⟩
    have p := pAdd_S l [ch o] (by simp; omega)
    rw [List.map_cons]
    unfold forLoop
    have b : bIn [v0, .fz (.str (S l)), a2, .fz (cellPV o)] = .ret (.nx [v0, .fz (.str (S (l ++ [ch o]))), a2, .fz (cellPV o)]) := by
      rcases o with _ | _ | _
      · simp [cellPV, pIs, S_q]; simp [ch] at p; simp [p, ch]
      · simp [cellPV, pIs, truth, S_m]; simp [ch] at p; simp [p, ch]
      · simp [cellPV, pIs, truth, S_p]; simp [ch] at p; simp [p, ch]
    simp only [gN, List.set_cons_succ, List.set_cons_zero, b, Wp.ret_bind, e]
    simp
theorem rows_loop (v0 : SV) : ∀ (t : List (List (Option Bool))) (l : List Nat) (a2 a3 : SV), (∀ r ∈ t, r.length = 4) → l.length + 5 * t.length ≤ 16777216 →
    ∃ a2' a3', forLoop (gN 2) (sSeq (sFor (gN 3) (iSeq (eVar 2)) bIn) (sSet 1 (eOp2 pAdd (eVar 1) (eC (.str "\n"))))) (t.map rowPV) [v0, .fz (.str (S l)), a2, a3] = .ret (.nx [v0, .fz (.str (S (l ++ txt t))), a2', a3'])
  | [], l, a2, a3, _, _ => ⟨a2, a3, by simp [forLoop, txt]⟩
  | r :: t, l, a2, a3, hr, h => by
    have hl := hr r List.mem_cons_self
    have h' : l.length + 5 * (t.length + 1) ≤ 16777216 := by simpa using h
    obtain ⟨b3, e1⟩ := cells_loop v0 (.fz (rowPV r)) r l a3 (by omega)
    have p := pAdd_S (l ++ r.map ch) [10] (by simp [hl]; omega)
    obtain ⟨a2', a3', e2⟩ := rows_loop v0 t (l ++ r.map ch ++ [10]) (.fz (rowPV r)) b3 (fun x hx => hr x (List.mem_cons_of_mem _ hx)) (by simp [hl]; omega)
    refine ⟨a2', a3', ?_⟩
    rw [List.map_cons]
    unfold forLoop
    have b : (sSeq (sFor (gN 3) (iSeq (eVar 2)) bIn) (sSet 1 (eOp2 pAdd (eVar 1) (eC (.str "\n"))))) [v0, .fz (.str (S l)), .fz (rowPV r), a3] = .ret (.nx [v0, .fz (.str (S (l ++ r.map ch ++ [10]))), .fz (rowPV r), b3]) := by
      simp only [rowPV] at e1 ⊢
      simp only [c_sSeq, c_sFor, c_iSeq, c_eVar', List.getElem?_cons_succ, List.getElem?_cons_zero, Wp.ret_bind, items, lift'_some, e1, c_sSet, c_eOp2, c_eC, S_n, p, lift_some, List.set_cons_succ, List.set_cons_zero]
    simp only [gN, List.set_cons_succ, List.set_cons_zero, b, Wp.ret_bind, e2]
    simp [txt]
theorem text_ok {t : List (List (Option Bool))} (h : Tab t) : m__law_text [.fz (tabPV t)] = .ret (.str (S (txt t)), [.un]) := by
  unfold m__law_text
  rw [fnV_eq rfl]
  obtain ⟨a2, a3, e⟩ := rows_loop (.fz (tabPV t)) t [] .un .un h.2 (by rw [h.1]; decide)
  rw [← S_nil] at e
  simp only [List.nil_append] at e
  have e' : forLoop (gN 2) (sSeq (sFor (gN 3) (iSeq (eVar 2)) bIn) (sSet 1 (eOp2 pAdd (eVar 1) (eC (.str "\n"))))) (t.map rowPV) [.fz (.tup (t.map rowPV)), .fz (.str (PySem.Str.ofString "")), .un, .un] = .ret (.nx [.fz (.tup (t.map rowPV)), .fz (.str (S (txt t))), a2, a3]) := e
  simp [b__law_text, tabPV, items, e', outs, SV.own]
end k54

set_option Elab.async false
set_option linter.all false
set_option maxRecDepth 100000
set_option maxHeartbeats 1000000
namespace k54
open PySem PySem.Spec PyProof.Rows L2 VL
/-! ### texts read -/
def okC (c : Nat) : Bool := decide (c = 43) || (decide (c = 45) || decide (c = 63))
def unC : Nat → Option Bool
  | 43 => some true
  | 45 => some false
  | _ => none
def lineOk (l : List Nat) : Bool := decide (l.length = 4) && l.all okC
def parts (l : List Nat) : List (List Nat) := (Txt.split (S l) (S [10])).map fun p => p.cps.toList
def readP (ps : List (List Nat)) : Option (List (List (Option Bool))) := if ps.length = 5 ∧ ps[4]? = some [] ∧ (ps.take 4).all lineOk = true then some ((ps.take 4).map fun p => p.map unC) else none
theorem parts_S (l : List Nat) : (Txt.split (S l) (S [10])).map PV.str = (parts l).map fun p => PV.str (S p) := by
  unfold parts
  rw [List.map_map]
  rfl
theorem str_inj {a b : List Nat} : (S a = S b) ↔ a = b := ⟨S_inj, fun h => by rw [h]⟩
theorem pNe_S (a b : List Nat) : pNe (.str (S a)) (.str (S b)) = some (.bl (!decide (a = b))) := by
  have : decide (S a = S b) = decide (a = b) := by simp only [str_inj]
  show some (PV.bl (!decide (S a = S b))) = _
  rw [this]
theorem pEq_S (a b : List Nat) : pEq (.str (S a)) (.str (S b)) = some (.bl (decide (a = b))) := by
  have : decide (S a = S b) = decide (a = b) := by simp only [str_inj]
  show some (PV.bl (decide (S a = S b))) = _
  rw [this]
theorem beqS (a b : List Nat) : (S a == S b) = decide (a = b) := by
  have : (S a == S b) = decide (S a = S b) := by by_cases h : S a = S b <;> simp [h]
  rw [this]
  simp only [str_inj]
theorem shown (k : Nat) : t_SHOWN.lookup (S [k]) = if k = 43 then some (V.bl true) else if k = 45 then some (.bl false) else if k = 63 then some .non else none := by
  have e : t_SHOWN = [(S [43], V.bl true), (S [45], .bl false), (S [63], .non)] := by unfold t_SHOWN; rw [S_p, S_m, S_q]
  rw [e]
  simp only [List.lookup_cons, beqS, List.cons.injEq, and_true, List.lookup_nil]
  by_cases h1 : k = 43
  · simp [h1]
  · by_cases h2 : k = 45
    · simp [h2]
    · by_cases h3 : k = 63
      · simp [h3]
      · simp [h1, h2, h3]
theorem tabIn_ok (k : Nat) : tabIn t_SHOWN (.str (S [k])) = some (.bl (okC k)) := by
  show some (PV.bl (t_SHOWN.lookup (S [k])).isSome) = _
  rw [shown]
  unfold okC
  by_cases h1 : k = 43
  · simp [h1]
  · by_cases h2 : k = 45
    · simp [h2]
    · by_cases h3 : k = 63
      · simp [h3]
      · simp [h1, h2, h3]
theorem tabIx_ok (k : Nat) (h : okC k = true) : tabIx t_SHOWN (.str (S [k])) = some (cellPV (unC k)) := by
  show (t_SHOWN.lookup (S [k])).map vPV = _
  rw [shown]
  unfold okC at h
  by_cases h1 : k = 43
  · subst h1; rfl
  · by_cases h2 : k = 45
    · subst h2; rfl
    · by_cases h3 : k = 63
      · subst h3; rfl
      · simp [h1, h2, h3] at h
theorem line_ok (p : List Nat) (h : p.length ≤ 16777216) : m_is_line [.fz (.str (S p))] = .ret (.bl (lineOk p), [.un]) := by
  unfold m_is_line
  rw [fnV_eq rfl]
  have hz : (S p).length ≤ sizeLine := sl_le (by rw [S_len]; exact h)
  have e1 : pLen (.str (S p)) = some (.int p.length) := by
    show (if (S p).length ≤ sizeLine then some (PV.int (S p).length) else none) = _
    rw [if_pos hz, S_len]
  have q := lLc_map (i := 1) (gi := iSeq (eVar 0)) (ge := eOp1 (tabIn t_SHOWN) (eVar 1)) (ρ := [.fz (.str (S p)), .un]) (xs := p.map fun k => PV.str (S [k])) (fun x => match x with | .str z => .bl (okC (z.cps.toList.headD 0)) | _ => .non) (by simp [items]) (sl_le (by simpa using h)) rfl
    (fun x hx => by
      obtain ⟨k, _, rfl⟩ := List.mem_map.mp hx
      simp [tabIn_ok k])
  have e2 : (p.map fun k => PV.str (S [k])).map (fun x => match x with | .str z => PV.bl (okC (z.cps.toList.headD 0)) | _ => .non) = (p.map okC).map PV.bl := by
    rw [List.map_map, List.map_map]
    rfl
  rw [e2] at q
  have e3 : pAll (.lst none ((p.map okC).map PV.bl)) = some (.bl (p.all okC)) := by
    show (blsOf _).map _ = _
    rw [blsOf_map]
    simp [List.all_map]
  have e4 : ((p.length : Int) = 4) ↔ (p.length = 4) := by omega
  cases h4 : decide (p.length = 4) with
  | true =>
    have h5 : p.length = 4 := by simpa using h4
    simp [b_is_line, e1, pEq_int, e4, h5, q, e3, outs, SV.own, lineOk, -List.map_map]
  | false =>
    have h5 : ¬ p.length = 4 := by simpa using h4
    simp [b_is_line, e1, pEq_int, e4, h5, outs, SV.own, lineOk]
def inter : List (List Nat) → List Nat
  | [] => []
  | [a] => a
  | a :: b :: r => a ++ 10 :: inter (b :: r)
theorem inter_join : ∀ L : List Str, Str.join (S [10]) L = S (inter (L.map fun p => p.cps.toList))
  | [] => rfl
  | [a] => rfl
  | a :: b :: r => by
    have e := inter_join (b :: r)
    show a ++ S [10] ++ Str.join (S [10]) (b :: r) = _
    rw [e]
    show S a.cps.toList ++ S [10] ++ S (inter ((b :: r).map fun p => p.cps.toList)) = _
    rw [S_append, S_append]
    simp [inter]
theorem inter_parts (l : List Nat) : inter (parts l) = l := by
  have q := StrLaws.join_split (S l) (S [10])
  rw [inter_join] at q
  exact S_inj q
theorem parts_free (l : List Nat) : ∀ p ∈ parts l, 10 ∉ p := fun p hp => by
  obtain ⟨z, hz, rfl⟩ := List.mem_map.mp hp
  exact StrLaws.split_free (S l) 10 z hz
theorem parts_ne (l : List Nat) : parts l ≠ [] := by
  unfold parts
  intro h
  have h' := List.map_eq_nil_iff.mp h
  unfold Txt.split at h'
  split at h'
  · cases h'
  · split at h'
    · cases h'
    · obtain ⟨p, r, e⟩ := StrLaws.partsFrom_ne (S l) (S [10]).length 0 (Builtin.Str.occurrences (S l) (S [10]) 0 (S l).length ((S l).length + 1))
      rw [StrLaws.partsBetween_eq, e] at h'
      cases h'
theorem inter_len : ∀ (ps : List (List Nat)), ∀ p ∈ ps, p.length ≤ (inter ps).length
  | [a], p, h => by simp at h; subst h; exact Nat.le_refl _
  | a :: b :: r, p, h => by
    rcases List.mem_cons.mp h with h | h
    · subst h; simp [inter]
    · have := inter_len (b :: r) p h
      simp [inter]; omega
theorem parts_len (l : List Nat) : ∀ p ∈ parts l, p.length ≤ l.length := fun p hp => by
  have := inter_len (parts l) p hp
  rwa [inter_parts] at this
theorem cut_one : ∀ {a b x y : List Nat}, 10 ∉ a → 10 ∉ b → a ++ 10 :: x = b ++ 10 :: y → a = b ∧ x = y
  | [], [], _, _, _, _, h => by simpa using h
  | [], c :: b, _, _, _, hb, h => by simp at h; exact absurd h.1 (fun z => hb (by simp [z]))
  | c :: a, [], _, _, ha, _, h => by simp at h; exact absurd h.1.symm (fun z => ha (by simp [z]))
  | c :: a, d :: b, x, y, ha, hb, h => by
    simp at h
    have := cut_one (a := a) (b := b) (fun z => ha (by simp [z])) (fun z => hb (by simp [z])) h.2
    exact ⟨by rw [h.1, this.1], this.2⟩
theorem no_cut {a b x : List Nat} (hb : 10 ∉ b) : a ++ 10 :: x ≠ b := fun h => hb (by rw [← h]; simp)
theorem inter_inj : ∀ {ps qs : List (List Nat)}, (∀ p ∈ ps, 10 ∉ p) → (∀ p ∈ qs, 10 ∉ p) → ps ≠ [] → qs ≠ [] → inter ps = inter qs → ps = qs
  | [], _, _, _, h, _, _ => absurd rfl h
  | _, [], _, _, _, h, _ => absurd rfl h
  | [a], [b], _, _, _, _, h => by simp [inter] at h; rw [h]
  | [a], b :: c :: r, ha, _, _, _, h => absurd h.symm (no_cut (ha a (by simp)))
  | a :: c :: r, [b], _, hb, _, _, h => absurd h (no_cut (hb b (by simp)))
  | a :: c :: r, b :: d :: s, ha, hb, _, _, h => by
    obtain ⟨h1, h2⟩ := cut_one (ha a (by simp)) (hb b (by simp)) (show a ++ 10 :: inter (c :: r) = b ++ 10 :: inter (d :: s) from h)
    have := inter_inj (ps := c :: r) (qs := d :: s) (fun p hp => ha p (List.mem_cons_of_mem _ hp)) (fun p hp => hb p (List.mem_cons_of_mem _ hp)) (by simp) (by simp) h2
    rw [h1, this]
theorem parts_of {ps : List (List Nat)} (hf : ∀ p ∈ ps, 10 ∉ p) (hn : ps ≠ []) : parts (inter ps) = ps := inter_inj (parts_free _) hf (parts_ne _) hn (inter_parts _)
/-- the law's own reading: by positions -/
def rowAt (l : List Nat) (k : Nat) : List Nat := (l.drop (5 * k)).take 4
def readL (l : List Nat) : Option (List (List (Option Bool))) := if l.length = 20 ∧ (∀ k ∈ [0, 1, 2, 3], l[5 * k + 4]? = some 10) ∧ ([0, 1, 2, 3].map (rowAt l)).all (fun r => r.all okC) = true then some (([0, 1, 2, 3].map (rowAt l)).map fun r => r.map unC) else none
theorem okC_10 {p : List Nat} (h : p.all okC = true) : 10 ∉ p := fun z => by
  have := List.all_eq_true.mp h 10 z
  simp [okC] at this
theorem read_same (l : List Nat) : readP (parts l) = readL l := by
  by_cases h : l.length = 20 ∧ (∀ k ∈ [0, 1, 2, 3], l[5 * k + 4]? = some 10) ∧ ([0, 1, 2, 3].map (rowAt l)).all (fun r => r.all okC) = true
  · have hR : readL l = some (([0, 1, 2, 3].map (rowAt l)).map fun r => r.map unC) := if_pos h
    obtain ⟨h1, h2, h3⟩ := h
    have ok : ∀ k ∈ [0, 1, 2, 3], (rowAt l k).all okC = true := fun k hk => List.all_eq_true.mp h3 _ (List.mem_map.mpr ⟨k, hk, rfl⟩)
    have len : ∀ k ∈ [0, 1, 2, 3], (rowAt l k).length = 4 := fun k hk => by
      simp [rowAt, h1]
      simp at hk
      omega
    have el : l = inter [rowAt l 0, rowAt l 1, rowAt l 2, rowAt l 3, []] := by
      match l, h1 with
      | [a0, a1, a2, a3, a4, b0, b1, b2, b3, b4, c0, c1, c2, c3, c4, d0, d1, d2, d3, d4], _ =>
        have g0 := h2 0 (by simp)
        have g1 := h2 1 (by simp)
        have g2 := h2 2 (by simp)
        have g3 := h2 3 (by simp)
        simp at g0 g1 g2 g3
        subst g0 g1 g2 g3
        rfl
    have ep : parts l = [rowAt l 0, rowAt l 1, rowAt l 2, rowAt l 3, []] := by
      have q := parts_of (ps := [rowAt l 0, rowAt l 1, rowAt l 2, rowAt l 3, []]) (fun p hp => by
        simp at hp
        rcases hp with rfl | rfl | rfl | rfl | rfl
        · exact okC_10 (ok 0 (by simp))
        · exact okC_10 (ok 1 (by simp))
        · exact okC_10 (ok 2 (by simp))
        · exact okC_10 (ok 3 (by simp))
        · simp) (by simp)
      rw [← el] at q
      exact q
    rw [hR, ep]
    unfold readP
    rw [if_pos ⟨rfl, rfl, by simp [lineOk, len 0 (by simp), len 1 (by simp), len 2 (by simp), len 3 (by simp)]; exact ⟨by simpa using ok 0 (by simp), by simpa using ok 1 (by simp), by simpa using ok 2 (by simp), by simpa using ok 3 (by simp)⟩⟩]
    rfl
  · have hR : readL l = none := if_neg h
    rw [hR]
    unfold readP
    rw [if_neg]
    rintro ⟨h5, h6, h7⟩
    refine h ?_
    obtain ⟨p0, p1, p2, p3, p4, hp⟩ : ∃ p0 p1 p2 p3 p4, parts l = [p0, p1, p2, p3, p4] := by
      match parts l, h5 with
      | [p0, p1, p2, p3, p4], _ => exact ⟨p0, p1, p2, p3, p4, rfl⟩
    rw [hp] at h6 h7
    have e4 : p4 = [] := by simpa using h6
    subst e4
    simp [lineOk] at h7
    obtain ⟨⟨a1, b1⟩, ⟨a2, b2⟩, ⟨a3, b3⟩, ⟨a4, b4⟩⟩ := h7
    have el := inter_parts l
    rw [hp] at el
    match p0, a1, p1, a2, p2, a3, p3, a4 with
    | [x0, x1, x2, x3], _, [y0, y1, y2, y3], _, [z0, z1, z2, z3], _, [w0, w1, w2, w3], _ =>
      subst el
      simp at b1 b2 b3 b4
      simp [inter, rowAt, b1, b2, b3, b4]
theorem cut5 {α : Type} (a b c d e : α) : cutP [a, b, c, d, e] none (some (-1)) = [a, b, c, d] := rfl
theorem at5 {α : Type} (a b c d e : α) : atI [a, b, c, d, e] (-1) = some e := rfl
abbrev gLine : GE := eCall m_is_line (aCons (eVar 2) aNil)
theorem lines_ok (v : PV) (w : PV) (ps : List (List Nat)) (hl : ∀ p ∈ ps, p.length ≤ 16777216) (hn : ps.length ≤ 16777216) (gi : GI) (hg : gi [.fz v, .fz w, .un, .un] = .ret (ps.map fun p => PV.str (S p), [.fz v, .fz w, .un, .un])) :
    lLc [2] gi (gN 2) gYes gLine [.fz v, .fz w, .un, .un] = .ret ((ps.map lineOk).map PV.bl, [.fz v, .fz w, .un, .un]) ∧ pAll (.lst none ((ps.map lineOk).map PV.bl)) = some (.bl (ps.all lineOk)) := by
  have q := lLc_map (i := 2) (gi := gi) (ge := gLine) (ρ := [.fz v, .fz w, .un, .un]) (xs := ps.map fun p => PV.str (S p)) (fun x => match x with | .str z => .bl (lineOk z.cps.toList) | _ => .non) hg (sl_le (by simpa using hn)) rfl
    (fun x hx => by
      obtain ⟨p, hp, rfl⟩ := List.mem_map.mp hx
      simp [fzs, line_ok p (hl p hp)])
  have e2 : (ps.map fun p => PV.str (S p)).map (fun x => match x with | .str z => PV.bl (lineOk z.cps.toList) | _ => .non) = (ps.map lineOk).map PV.bl := by
    rw [List.map_map, List.map_map]
    rfl
  rw [e2] at q
  have e3 : pAll (.lst none ((ps.map lineOk).map PV.bl)) = some (.bl (ps.all lineOk)) := by
    show (blsOf _).map _ = _
    rw [blsOf_map]
    simp [List.all_map]
  exact ⟨q, e3⟩
theorem cells_ok (v w : PV) (p : List Nat) (h : p.all okC = true) (hz : p.length ≤ 16777216) : eOp1 pTuple (eLst (lLc [3] (iSeq (eVar 2)) (gN 3) gYes (eOp1 (tabIx t_SHOWN) (eVar 3)))) [.fz v, .fz w, .fz (.str (S p)), .un] = .ret (rowPV (p.map unC), [.fz v, .fz w, .fz (.str (S p)), .un]) := by
  have q := lLc_map (i := 3) (gi := iSeq (eVar 2)) (ge := eOp1 (tabIx t_SHOWN) (eVar 3)) (ρ := [.fz v, .fz w, .fz (.str (S p)), .un]) (xs := p.map fun k => PV.str (S [k])) (fun x => match x with | .str z => cellPV (unC (z.cps.toList.headD 0)) | _ => .non) (by simp [items]) (sl_le (by simpa using hz)) rfl
    (fun x hx => by
      obtain ⟨k, hk, rfl⟩ := List.mem_map.mp hx
      simp [tabIx_ok k (List.all_eq_true.mp h k hk)])
  have e2 : (p.map fun k => PV.str (S [k])).map (fun x => match x with | .str z => cellPV (unC (z.cps.toList.headD 0)) | _ => .non) = (p.map unC).map cellPV := by
    rw [List.map_map, List.map_map]
    rfl
  rw [e2] at q
  simp [q, pTuple, rowPV, -List.map_map]
theorem read_ok (l : List Nat) (hz : l.length ≤ 1000000) : m_read_rates [.fz (.str (S l))] = match readP (parts l) with
    | some t => .ret (tabPV t, [.un])
    | none => .raise (⟨2, [("given", .str (S l))]⟩, [.un]) := by
  unfold m_read_rates
  rw [fnV_eq rfl]
  have hs : (S [10]).length = 1 := rfl
  have e0 : lSplit (.str (S l)) (.str (S [10])) = some ((parts l).map fun p => PV.str (S p)) := by
    show (if ((S [10]).length == 0) = false ∧ (S l).length + 2 ≤ sizeLine then some ((Txt.split (S l) (S [10])).map PV.str) else none) = _
    have hz2 : (S l).length + 2 ≤ sizeLine := sl_le (by rw [S_len]; omega)
    rw [if_pos ⟨by rw [hs]; rfl, hz2⟩, parts_S]
  rw [← S_n] at e0
  have pl : ∀ p ∈ parts l, p.length ≤ 16777216 := fun p hp => by have := parts_len l p hp; omega
  have e5 : ((parts l).length : Int) = 5 ↔ (parts l).length = 5 := by omega
  by_cases h5 : (parts l).length = 5
  · obtain ⟨p0, p1, p2, p3, p4, hp⟩ : ∃ p0 p1 p2 p3 p4, parts l = [p0, p1, p2, p3, p4] := by
      match parts l, h5 with
      | [p0, p1, p2, p3, p4], _ => exact ⟨p0, p1, p2, p3, p4, rfl⟩
    rw [hp] at e0 pl ⊢
    obtain ⟨l1, l2⟩ := lines_ok (.str (S l)) (.lst none ([p0, p1, p2, p3, p4].map fun p => PV.str (S p))) [p0, p1, p2, p3] (fun p q => pl p (by simp at q ⊢; rcases q with h | h | h | h <;> simp [h])) (by simp) (iSeq (eSl pSl (eVar 1) oNone (oSome (eOp1 pNeg (eC (.int 1)))))) (by simp [pNeg, pSl, cut5, items])
    have rr := lLc_map (i := 2) (gi := iSeq (eSl pSl (eVar 1) oNone (oSome (eOp1 pNeg (eC (.int 1)))))) (ge := eOp1 pTuple (eLst (lLc [3] (iSeq (eVar 2)) (gN 3) gYes (eOp1 (tabIx t_SHOWN) (eVar 3))))) (ρ := [.fz (.str (S l)), .fz (.lst none ([p0, p1, p2, p3, p4].map fun p => PV.str (S p))), .un, .un]) (xs := [p0, p1, p2, p3].map fun p => PV.str (S p))
      (fun x => match x with | .str z => rowPV (z.cps.toList.map unC) | _ => .non) (by simp [pNeg, pSl, cut5, items]) (sl_le (by simp)) rfl
    simp only [List.map_cons, List.map_nil] at l1 l2 rr e0
    have tk4 : [p0, p1, p2, p3, p4].take 4 = [p0, p1, p2, p3] := rfl
    cases h6 : decide (p4 = []) with
    | false =>
      have h7 : ¬ p4 = [] := by simpa using h6
      have e6 : pNe (.str (S p4)) (.str (PySem.Str.ofString "")) = some (.bl true) := by rw [S_nil, pNe_S, h6]; rfl
      simp [b_read_rates, pIsi, isT, tyN, truth, isStr, e0, pLen, pAdd, pNe_int, pIx, pNeg, at5, e6, outs, SV.own, readP, h7]
    | true =>
      have h7 : p4 = [] := by simpa using h6
      have e6 : pNe (.str (S p4)) (.str (PySem.Str.ofString "")) = some (.bl false) := by rw [S_nil, pNe_S, h6]; rfl
      cases h8 : [p0, p1, p2, p3].all lineOk with
      | false =>
        rw [h8] at l2
        have h9 : readP [p0, p1, p2, p3, p4] = none := by
          unfold readP
          rw [if_neg (fun h => by have := h.2.2; rw [tk4, h8] at this; cases this)]
        rw [h9]
        simp [b_read_rates, pIsi, isT, tyN, truth, isStr, e0, pLen, pAdd, pNe_int, pIx, pNeg, at5, e6, l1, l2, outs, SV.own]
      | true =>
        rw [h8] at l2
        have h9 : readP [p0, p1, p2, p3, p4] = some ([p0, p1, p2, p3].map fun p => p.map unC) := by
          unfold readP
          rw [if_pos ⟨rfl, by rw [h7]; rfl, by rw [tk4]; exact h8⟩, tk4]
        rw [h9]
        have r2 := rr (fun x hx => by
          have : ∃ p, p ∈ [p0, p1, p2, p3] ∧ x = .str (S p) := by
            simp at hx ⊢
            rcases hx with h | h | h | h <;> simp [h]
          obtain ⟨p, hp', rfl⟩ := this
          have lo : lineOk p = true := List.all_eq_true.mp h8 p hp'
          have lo2 : p.length = 4 ∧ p.all okC = true := by simpa [lineOk] using lo
          exact cells_ok _ _ p lo2.2 (by omega))
        simp [b_read_rates, pIsi, isT, tyN, truth, isStr, e0, pLen, pAdd, pNe_int, pIx, pNeg, at5, e6, l1, l2, outs, SV.own, r2, pTuple, tabPV]
  · have hr : readP (parts l) = none := by unfold readP; rw [if_neg (fun h => h5 h.1)]
    rw [hr]
    have h5' : ¬ ((parts l).length : Int) = 5 := fun h => h5 (e5.mp h)
    simp [b_read_rates, pIsi, isT, tyN, truth, isStr, e0, pLen, pAdd, pNe_int, h5, h5', outs, SV.own]
theorem read_bad (v : PV) (h : kn v = true) (hs : ∀ z, v ≠ .str z) : m_read_rates [.fz v] = .raise (⟨2, [("given", v)]⟩, [.un]) := by
  unfold m_read_rates
  rw [fnV_eq rfl]
  have e : isT "str" v = some false := by cases v <;> first | (simp [isT, tyN]; done) | exact absurd rfl (hs _) | cases h
  simp [b_read_rates, pIsi, e, truth, pLen, pAdd, pNe_int, outs, SV.own]
/-! ### the law's reading -/
theorem pvDs_strs : ∀ cs : List Nat, pvDs (cs.map fun c => PV.str (S [c])) = some (cs.map fun c => .str (S [c]))
  | [] => rfl
  | c :: cs => by
    show (pvD (.str (S [c]))).bind _ = _
    rw [pvDs_strs cs]
    rfl
theorem lay_strs : ∀ cs : List Nat, (∀ c ∈ cs, c < 128) → PyData.canLayAll0 (cs.map fun c => .str (S [c])) = true
  | [], _ => rfl
  | c :: cs, h => by
    show (PyData.canLay0 (.str (S [c])) && PyData.canLayAll0 (cs.map fun c => .str (S [c]))) = true
    rw [lay_strs cs fun x hx => h x (List.mem_cons_of_mem _ hx)]
    have := h c List.mem_cons_self
    simp [PyData.canLay0, PyData.strOk]
    omega
theorem dep_strs : ∀ cs : List Nat, PyData.depthAll (cs.map fun c => .str (S [c])) = 0
  | [] => rfl
  | c :: cs => by
    show max (PyData.depth (.str (S [c]))) (PyData.depthAll (cs.map fun c => .str (S [c]))) = 0
    rw [dep_strs cs]
    rfl
theorem eq_nil {g : Option Addr} {xs : List PV} {ds : List PyData} (h1 : pvDs xs = some ds) (h2 : PyData.canLayAll0 ds = true) (h3 : PyData.depthAll ds ≤ 63) : eqB (.lst g xs) (.lst none []) = some xs.isEmpty := by
  show eqD (.lst g xs) (.lst none []) = _
  have a : pvD (.lst g xs) = some (.list ds) := by simp [pvD, h1]
  have b : pvD (.lst none []) = some (.list []) := by simp [pvD, pvDs]
  unfold eqD
  rw [a, b]
  have c : SeqAt.shaped (.list ds) = true := by
    have e : (PyData.list ds).depth = PyData.depthAll ds + 1 := by simp [PyData.depth]
    have f : (PyData.list ds).canLay0 = true := by simp [PyData.canLay0, h2]
    unfold SeqAt.shaped
    rw [e, f, Bool.true_and]
    exact decide_eq_true (Nat.succ_le_succ h3)
  have d : SeqAt.shaped (.list []) = true := by decide +kernel
  dsimp only
  rw [if_pos ⟨c, d⟩]
  cases xs with
  | nil => simp only [pvDs] at h1; cases h1; rfl
  | cons x xs =>
    simp only [pvDs] at h1
    obtain ⟨e, _, h4⟩ := Option.bind_eq_some_iff.mp h1
    obtain ⟨es, _, rfl⟩ := Option.map_eq_some_iff.mp h4
    rfl
theorem eq_strs (cs : List Nat) (h : ∀ c ∈ cs, c < 128) : eqB (.lst none (cs.map fun c => PV.str (S [c]))) (.lst none []) = some (cs.isEmpty) := by
  rw [eq_nil (pvDs_strs cs) (lay_strs cs h) (by rw [dep_strs]; decide)]
  cases cs <;> rfl
theorem pvDs_ints : ∀ ns : List Int, pvDs (ns.map PV.int) = some (ns.map PyData.int)
  | [] => rfl
  | n :: ns => by
    show (pvD (.int n)).bind _ = _
    rw [pvDs_ints ns]
    rfl
theorem lay_ints : ∀ ns : List Int, PyData.canLayAll0 (ns.map PyData.int) = true ∧ PyData.depthAll (ns.map PyData.int) = 0
  | [] => ⟨rfl, rfl⟩
  | n :: ns => by
    obtain ⟨a, b⟩ := lay_ints ns
    constructor
    · show (PyData.canLay0 (.int n) && _) = true
      rw [a]; rfl
    · show max (PyData.depth (.int n)) _ = 0
      rw [b]; rfl
theorem eq_ints (ns : List Int) : eqB (.lst none (ns.map PV.int)) (.lst none []) = some ns.isEmpty := by
  rw [eq_nil (pvDs_ints ns) (lay_ints ns).1 (by rw [(lay_ints ns).2]; decide)]
  cases ns <;> rfl
theorem notin_ok (c : Nat) : pNotIn (.str (S [c])) (.str (PySem.Str.ofString "+-?")) = some (.bl (!okC c)) := by
  have e : (PySem.Str.ofString "+-?") = S [43, 45, 63] := by decide +kernel
  rw [e]
  show some (PV.bl (!decide (c ∈ [43, 45, 63]))) = _
  have : decide (c ∈ [43, 45, 63]) = okC c := by simp [okC]
  rw [this]
abbrev bRow : GS := sSeq (sSet 3 (eSl pSl (eVar 0) (oSome (eOp2 pMul (eC (.int 5)) (eVar 2))) (oSome (eOp2 pAdd (eOp2 pMul (eC (.int 5)) (eVar 2)) (eC (.int 4)))))) (sSeq (sIf (gBl (eOp2 pNe (eLst (lLc [4] (iSeq (eVar 3)) (gN 4) (gBl (eOp2 pNotIn (eVar 4) (eC (.str "+-?")))) (eVar 4))) (eLst (lDisp (aNil))))) (sRet (eC .non)) (sNil)) (sAppO 1 (eOp1 pTuple (eLst (lLc [4] (iSeq (eVar 3)) (gN 4) (gYes) (eIf (gBl (eOp2 pEq (eVar 4) (eC (.str "?")))) (eC .non) (eOp2 pEq (eVar 4) (eC (.str "+")))))))))
theorem row_step (l : List Nat) (k : Nat) (acc : List PV) (a3 : SV) (h20 : l.length = 20) (hk : k < 4) (hc : ∀ c ∈ l, c < 128) (ha : acc.length < 4) : bRow [.fz (.str (S l)), .ow acc, .fz (.int k), a3, .un] =
    if (rowAt l k).all okC = true then .ret (.nx [.fz (.str (S l)), .ow (acc ++ [rowPV ((rowAt l k).map unC)]), .fz (.int k), .fz (.str (S (rowAt l k))), .un]) else .ret (.rt .non [.fz (.str (S l)), .ow acc, .fz (.int k), .fz (.str (S (rowAt l k))), .un]) := by
  have m1 : pMul (.int 5) (.int k) = some (.int (5 * (k : Int))) := mul_ok (by decide) (by omega)
  have sl : pSl (.str (S l)) (some (5 * (k : Int))) (some (5 * (k : Int) + 4)) = some (.str (S (rowAt l k))) := by
    have hz : (S l).length ≤ sizeLine := sl_le (by rw [S_len]; omega)
    show (if (S l).length ≤ sizeLine then some (PV.str (Txt.slice (S l) (some (5 * (k : Int))) (some (5 * (k : Int) + 4)))) else none) = _
    rw [if_pos hz]
    have q := slice_nat l (a := 5 * k) (b := 5 * k + 4) (by omega) (by omega)
    have e1 : ((5 * k : Nat) : Int) = 5 * (k : Int) := by omega
    have e2 : ((5 * k + 4 : Nat) : Int) = 5 * (k : Int) + 4 := by omega
    rw [e1, e2, show 5 * k + 4 - 5 * k = 4 from by omega] at q
    rw [q]
    rfl
  have hr : (rowAt l k).length ≤ 4 := by unfold rowAt; rw [List.length_take]; omega
  have hcr : ∀ c ∈ rowAt l k, c < 128 := fun c hc' => hc c (List.mem_of_mem_drop (List.mem_of_mem_take hc'))
  let ρ : Env' := [.fz (.str (S l)), .ow acc, .fz (.int k), .fz (.str (S (rowAt l k))), .un]
  have q1 := lLc_pure (i := 4) (gi := iSeq (eVar 3)) (gt := gBl (eOp2 pNotIn (eVar 4) (eC (.str "+-?")))) (ge := eVar 4) (ρ := ρ) (xs := (rowAt l k).map fun c => PV.str (S [c])) (fun x => match x with | .str z => !okC (z.cps.toList.headD 0) | _ => false) id (by simp [ρ, items]) (sl_le (by simp; omega)) rfl
    (fun x hx => by
      obtain ⟨c, _, rfl⟩ := List.mem_map.mp hx
      exact ⟨by simp [ρ, notin_ok c], fun _ => by simp [ρ]⟩)
  have f1 : ((rowAt l k).map fun c => PV.str (S [c])).filter (fun x => match x with | .str z => !okC (z.cps.toList.headD 0) | _ => false) = ((rowAt l k).filter fun c => !okC c).map fun c => PV.str (S [c]) := by
    rw [List.filter_map]
    rfl
  rw [f1, List.map_id] at q1
  have e1 : pNe (.lst none (((rowAt l k).filter fun c => !okC c).map fun c => PV.str (S [c]))) (.lst none []) = some (.bl (!((rowAt l k).filter fun c => !okC c).isEmpty)) := by
    unfold pNe
    rw [eq_strs _ (fun c h => hcr c (List.mem_filter.mp h).1)]
    rfl
  have em : ((rowAt l k).filter fun c => !okC c).isEmpty = (rowAt l k).all okC := by
    cases h : (rowAt l k).all okC with
    | true =>
      rw [filter_none fun c hc => by simp [List.all_eq_true.mp h c hc]]
      rfl
    | false =>
      cases h2 : ((rowAt l k).filter fun c => !okC c) with
      | nil =>
        have := List.filter_eq_nil_iff.mp h2
        have h3 : (rowAt l k).all okC = true := List.all_eq_true.mpr fun c hc => by simpa using this c hc
        rw [h3] at h
        cases h
      | cons x xs => rfl
  rw [em] at e1
  cases h : (rowAt l k).all okC with
  | false =>
    rw [h] at e1
    simp [m1, sl, pAdd]
    simp [ρ] at q1
    simp [q1, e1]
  | true =>
    rw [h] at e1
    have q2 := lLc_map (i := 4) (gi := iSeq (eVar 3)) (ge := eIf (gBl (eOp2 pEq (eVar 4) (eC (.str "?")))) (eC .non) (eOp2 pEq (eVar 4) (eC (.str "+")))) (ρ := ρ) (xs := (rowAt l k).map fun c => PV.str (S [c])) (fun x => match x with | .str z => cellPV (unC (z.cps.toList.headD 0)) | _ => .non) (by simp [ρ, items]) (sl_le (by simp; omega)) rfl
      (fun x hx => by
        obtain ⟨c, hc', rfl⟩ := List.mem_map.mp hx
        have ok := List.all_eq_true.mp h c hc'
        unfold okC at ok
        by_cases h1 : c = 43
        · subst h1; simp [ρ, S_q, S_p, pEq_S, unC, cellPV]
        · by_cases h2 : c = 45
          · subst h2; simp [ρ, S_q, S_p, pEq_S, unC, cellPV]
          · by_cases h3 : c = 63
            · subst h3; simp [ρ, S_q, S_p, pEq_S, unC, cellPV]
            · simp [h1, h2, h3] at ok)
    have f2 : ((rowAt l k).map fun c => PV.str (S [c])).map (fun x => match x with | .str z => cellPV (unC (z.cps.toList.headD 0)) | _ => .non) = ((rowAt l k).map unC).map cellPV := by
      rw [List.map_map, List.map_map]
      rfl
    rw [f2] at q2
    have hsz : acc.length < sizeLine := by rw [sizeLine_eq]; omega
    simp [m1, sl, pAdd]
    simp only [ρ] at q1 q2
    simp [q1, e1, q2, pTuple, ownAt, SV.own, hsz, rowPV, -List.map_map]
theorem rows_read (l : List Nat) (h20 : l.length = 20) (hc : ∀ c ∈ l, c < 128) : ∀ (ks : List Nat) (acc : List PV) (a2 a3 : SV), (∀ k ∈ ks, k < 4) → acc.length + ks.length ≤ 4 →
    if (ks.map (rowAt l)).all (fun r => r.all okC) = true then ∃ a2' a3', forLoop (gN 2) bRow (ks.map fun (k : Nat) => PV.int k) [.fz (.str (S l)), .ow acc, a2, a3, .un] = .ret (.nx [.fz (.str (S l)), .ow (acc ++ ks.map fun k => rowPV ((rowAt l k).map unC)), a2', a3', .un])
    else ∃ ρ', forLoop (gN 2) bRow (ks.map fun (k : Nat) => PV.int k) [.fz (.str (S l)), .ow acc, a2, a3, .un] = .ret (.rt .non ρ')
  | [], acc, a2, a3, _, _ => by
    have h0 : (([] : List Nat).map (rowAt l)).all (fun r => r.all okC) = true := rfl
    rw [if_pos h0]
    exact ⟨a2, a3, by simp [forLoop]⟩
  | k :: ks, acc, a2, a3, hk, hl => by
    have hl' : acc.length + (ks.length + 1) ≤ 4 := by simpa using hl
    have st := row_step l k acc a3 h20 (hk k List.mem_cons_self) hc (by omega)
    have un : forLoop (gN 2) bRow ((k :: ks).map fun (k : Nat) => PV.int k) [.fz (.str (S l)), .ow acc, a2, a3, .un] = (bRow [.fz (.str (S l)), .ow acc, .fz (.int k), a3, .un]).bind fun o => match o with
      | .nx ρ2 => forLoop (gN 2) bRow (ks.map fun (k : Nat) => PV.int k) ρ2
      | .ct ρ2 => forLoop (gN 2) bRow (ks.map fun (k : Nat) => PV.int k) ρ2
      | .bk ρ2 => .ret (.nx ρ2)
      | .rt v ρ2 => .ret (.rt v ρ2)
      | .th (some b) ρ2 => .ret (.th (some b) ρ2)
      | .th none _ => .stuck := rfl
    cases h : (rowAt l k).all okC with
    | false =>
      rw [if_neg (by simp only [List.map_cons, List.all_cons, h, Bool.false_and]; decide)]
      rw [h, if_neg Bool.false_ne_true] at st
      exact ⟨_, by rw [un, st]; rfl⟩
    | true =>
      rw [h, if_pos rfl] at st
      have ih := rows_read l h20 hc ks (acc ++ [rowPV ((rowAt l k).map unC)]) (.fz (.int k)) (.fz (.str (S (rowAt l k)))) (fun x hx => hk x (List.mem_cons_of_mem _ hx)) (by simp; omega)
      simp only [List.map_cons, List.all_cons, h, Bool.true_and]
      have un' := un
      rw [st] at un'
      simp only [Wp.ret_bind, List.map_cons] at un'
      rw [un']
      split at ih
      · rename_i hq
        rw [if_pos hq]
        obtain ⟨b2, b3, e⟩ := ih
        exact ⟨b2, b3, by rw [e, List.append_assoc]; rfl⟩
      · rename_i hq
        rw [if_neg hq]
        exact ih
theorem lawread_ok (l : List Nat) (hz : l.length ≤ 1000000) (hc : ∀ c ∈ l, c < 128) : m__law_read [.fz (.str (S l))] = .ret ((match readL l with | some t => tabPV t | none => .non), [.un]) := by
  unfold m__law_read
  rw [fnV_eq rfl]
  have hl : pLen (.str (S l)) = some (.int l.length) := by
    have hz2 : (S l).length ≤ sizeLine := sl_le (by rw [S_len]; omega)
    show (if (S l).length ≤ sizeLine then some (PV.int (S l).length) else none) = _
    rw [if_pos hz2, S_len]
  by_cases h20 : l.length = 20
  · have h20' : (l.length : Int) = 20 := by omega
    let ρ : Env' := [.fz (.str (S l)), .un, .un, .un, .un]
    have ix : ∀ k : Nat, k < 4 → ∃ c, l[5 * k + 4]? = some c ∧ pIx (.str (S l)) (.int (5 * (k : Int) + 4)) = some (.str (S [c])) := fun k hk => by
      have hlt : 5 * k + 4 < l.length := by omega
      refine ⟨l[5 * k + 4], List.getElem?_eq_getElem hlt, ?_⟩
      have hz2 : (S l).length ≤ sizeLine := sl_le (by rw [S_len]; omega)
      show (if (S l).length ≤ sizeLine then (atI (S l).cps.toList (5 * (k : Int) + 4)).map fun k => PV.str ⟨#[k]⟩ else none) = _
      rw [if_pos hz2, show (5 * (k : Int) + 4) = ((5 * k + 4 : Nat) : Int) from by omega, atI_opt]
      show Option.map _ l[5 * k + 4]? = _
      rw [List.getElem?_eq_getElem hlt]
      rfl
    have q1 := lLc_pure (i := 2) (gi := iRng (eC (.int 4))) (gt := gBl (eOp2 pNe (eOp2 pIx (eVar 0) (eOp2 pAdd (eOp2 pMul (eC (.int 5)) (eVar 2)) (eC (.int 4)))) (eC (.str "\n")))) (ge := eVar 2) (ρ := ρ) (xs := ([0, 1, 2, 3] : List Nat).map fun (k : Nat) => PV.int k)
      (fun x => match x with | .int k => !decide (l[5 * k.toNat + 4]? = some 10) | _ => false) id (by
        have := iRange_len (n := 4) (by rw [sizeLine_eq]; decide)
        simp [ρ]
        exact congrArg (fun o => lift' o _) this) (sl_le (by decide)) rfl
      (fun x hx => by
        obtain ⟨k, hk, rfl⟩ := List.mem_map.mp hx
        have hk4 : k < 4 := by simp at hk; omega
        obtain ⟨c, h1, h2⟩ := ix k hk4
        have m1 : pMul (.int 5) (.int k) = some (.int (5 * (k : Int))) := mul_ok (by decide) (by omega)
        refine ⟨?_, fun _ => by simp [ρ]⟩
        have h3 : decide (l[5 * k + 4]? = some 10) = decide (c = 10) := by rw [h1]; simp
        simp [ρ, m1, pAdd, h2, S_n, pNe_S, h1])
    have f1 : (([0, 1, 2, 3] : List Nat).map fun (k : Nat) => PV.int k).filter (fun x => match x with | .int k => !decide (l[5 * k.toNat + 4]? = some 10) | _ => false) = ((([0, 1, 2, 3] : List Nat).filter fun k => !decide (l[5 * k + 4]? = some 10)).map fun (k : Nat) => (k : Int)).map PV.int := by
      rw [List.filter_map, List.map_map]
      rfl
    rw [f1, List.map_id] at q1
    have e1 : pNe (.lst none (((([0, 1, 2, 3] : List Nat).filter fun k => !decide (l[5 * k + 4]? = some 10)).map fun (k : Nat) => (k : Int)).map PV.int)) (.lst none []) = some (.bl (!((([0, 1, 2, 3] : List Nat).filter fun k => !decide (l[5 * k + 4]? = some 10)).map fun (k : Nat) => (k : Int)).isEmpty)) := by
      unfold pNe
      rw [eq_ints]
      rfl
    by_cases hb : ∀ k ∈ [0, 1, 2, 3], l[5 * k + 4]? = some 10
    · have em : (([0, 1, 2, 3] : List Nat).filter fun k => !decide (l[5 * k + 4]? = some 10)) = [] := filter_none fun k hk => by simp [hb k hk]
      rw [em] at q1 e1
      simp only [ρ] at q1
      simp only [List.map_nil, List.isEmpty_nil, Bool.not_true] at q1 e1
      have rng : iRange (.int 4) = some [.int 0, .int 1, .int 2, .int 3] := iRange_len (n := 4) (by rw [sizeLine_eq]; decide)
      have lp := rows_read l h20 hc [0, 1, 2, 3] [] .un .un (by simp) (by simp)
      have ei : ([0, 1, 2, 3] : List Nat).map (fun (k : Nat) => PV.int k) = [.int 0, .int 1, .int 2, .int 3] := rfl
      rw [ei] at lp
      split at lp
      · rename_i hq
        obtain ⟨a2, a3, lp⟩ := lp
        have hR : readL l = some (([0, 1, 2, 3].map (rowAt l)).map fun r => r.map unC) := if_pos ⟨h20, hb, hq⟩
        rw [hR]
        have e9 : tabPV (([0, 1, 2, 3].map (rowAt l)).map fun r => r.map unC) = .tup ([] ++ [0, 1, 2, 3].map fun k => rowPV ((rowAt l k).map unC)) := rfl
        dsimp only
        rw [e9]
        generalize ([] ++ [0, 1, 2, 3].map fun k => rowPV ((rowAt l k).map unC)) = rs at lp
        simp [b__law_read, pIsi, isT, tyN, truth, hl, pNe_int, h20', q1, e1, rng, lp, outs, SV.own, pTuple, -List.map_map, -List.map_cons]
      · rename_i hq
        obtain ⟨ρ', lp⟩ := lp
        have hR : readL l = none := if_neg fun h => hq h.2.2
        rw [hR]
        simp [b__law_read, pIsi, isT, tyN, truth, hl, pNe_int, h20', q1, e1, rng, lp, outs, SV.own, -List.map_map, -List.map_cons]
    · have hR : readL l = none := if_neg fun h => hb h.2.1
      have em : ∃ x xs, (([0, 1, 2, 3] : List Nat).filter fun k => !decide (l[5 * k + 4]? = some 10)) = x :: xs := by
        cases h2 : (([0, 1, 2, 3] : List Nat).filter fun k => !decide (l[5 * k + 4]? = some 10)) with
        | nil => exact absurd (fun k hk => by simpa using List.filter_eq_nil_iff.mp h2 k hk) hb
        | cons x xs => exact ⟨x, xs, rfl⟩
      obtain ⟨x, xs, em⟩ := em
      rw [em] at q1 e1
      rw [hR]
      simp only [ρ] at q1
      simp [b__law_read, pIsi, isT, tyN, truth, hl, pNe_int, h20', q1, e1, outs, SV.own, -List.map_map, -List.map_cons]
  · have hR : readL l = none := if_neg fun h => h20 h.1
    rw [hR]
    have h20' : ¬ (l.length : Int) = 20 := by omega
    simp [b__law_read, pIsi, isT, tyN, truth, hl, pNe_int, h20', outs, SV.own]
end k54

set_option Elab.async false
set_option linter.all false
set_option maxRecDepth 100000
set_option maxHeartbeats 1000000
namespace k54
open PySem PySem.Spec PyProof.Rows L2 VL
theorem try_ret {ex : Nat → Nat → Option Bool} {hs : List Hd} {g : GS} {ρ : Env'} {o : Out} (h : g ρ = .ret o) : sTry ex hs g ρ = .ret o := by
  refine Wp.ext_run fun K E => ?_
  show (g ρ).run K _ ↔ K o
  rw [h]
  exact Iff.rfl
theorem try_raise {ex : Nat → Nat → Option Bool} {hs : List Hd} {g : GS} {ρ : Env'} {e : XE'} {v : PV} (h : g ρ = .raise e) (hp : pick ex e.1 hs = some (some v)) : sTry ex hs g ρ = .ret (.rt v e.2) := by
  refine Wp.ext_run fun K E => ?_
  show (g ρ).run K _ ↔ K _
  rw [h]
  show (match pick ex e.1 hs with | some (some v) => K (.rt v e.2) | some none => E e | none => False) ↔ K _
  rw [hp]
abbrev hs54 : List Hd := [⟨1, some 3, .many [.c (.str "table"), .f "given"]⟩, ⟨2, some 3, .many [.c (.str "text"), .f "given"]⟩, ⟨0, none, .many [.c (.str "other"), .c .non]⟩]
theorem pick1 (v : PV) : pick exT ⟨1, [("given", v)]⟩ hs54 = some (some (.lst none [.str "table", v])) := by
  have e : siVals 1 ⟨1, [("given", v)]⟩ [.c (.str "table"), .f "given"] = some [.str "table", v] := rfl
  show (some true).bind _ = _
  simp only [Option.bind_some, if_true]
  show ((siVals 1 ⟨1, [("given", v)]⟩ [.c (.str "table"), .f "given"]).bind fun vs => if vs.length ≤ sizeLine then some (PV.lst none vs) else none).map some = _
  rw [e]
  simp
theorem pick2 (v : PV) : pick exT ⟨2, [("given", v)]⟩ hs54 = some (some (.lst none [.str "text", v])) := by
  have e : siVals 2 ⟨2, [("given", v)]⟩ [.c (.str "text"), .f "given"] = some [.str "text", v] := rfl
  show (some false).bind _ = _
  simp only [Option.bind_some, Bool.false_eq_true, if_false]
  show (some true).bind _ = _
  simp only [Option.bind_some, if_true]
  show ((siVals 2 ⟨2, [("given", v)]⟩ [.c (.str "text"), .f "given"]).bind fun vs => if vs.length ≤ sizeLine then some (PV.lst none vs) else none).map some = _
  rw [e]
  simp
@[simp] theorem c_eCallK {m : GF} {π : List Nat} {ga : GA} {ρ : Env'} : eCallK m π ga ρ = (ga ρ).bind fun a => ((m (fzs (perm .non π a.1))).mapE fun e => (e.1, a.2)).bind fun r => .ret (r.1, a.2) := (rfl)
theorem perm1 (v : PV) : perm .non [0] [v] = [v] := rfl
theorem asked0_ok {t : List (List (Option Bool))} (h : Tab t) (nm : Bool) : m__law_asked [.fz (.int 0), .fz (tabPV t), .fz (.bl nm)] = .ret (.lst none [.str "told", .str (S (txt t))], [.un, .un, .un]) := by
  unfold m__law_asked
  rw [fnV_eq rfl]
  have r := rate_ok h
  unfold b__law_asked
  rw [try_ret (o := .rt (.lst none [.str "told", .str (S (txt t))]) [.fz (.int 0), .fz (tabPV t), .fz (.bl nm), .un])]
  · rfl
  · cases nm <;> simp [pEq_int, truth, fzs, r, perm1]
theorem asked0_bad (v : PV) (h : kn2 v = true) (hb : tabB' v = false) (nm : Bool) : m__law_asked [.fz (.int 0), .fz v, .fz (.bl nm)] = .ret (.lst none [.str "table", v], [.un, .un, .un]) := by
  unfold m__law_asked
  rw [fnV_eq rfl]
  have r := rate_bad v h hb
  unfold b__law_asked
  rw [try_raise (e := (⟨1, [("given", v)]⟩, [.fz (.int 0), .fz v, .fz (.bl nm), .un])) (v := .lst none [.str "table", v])]
  · rfl
  · cases nm <;> simp [pEq_int, truth, fzs, r, perm1]
  · exact pick1 v
theorem asked1_ok (l : List Nat) (hz : l.length ≤ 1000000) (nm : Bool) : m__law_asked [.fz (.int 1), .fz (.str (S l)), .fz (.bl nm)] = .ret (.lst none (match readL l with | some t => [.str "told", tabPV t] | none => [.str "text", .str (S l)]), [.un, .un, .un]) := by
  unfold m__law_asked
  rw [fnV_eq rfl]
  have r := read_ok l hz
  rw [read_same] at r
  unfold b__law_asked
  cases hR : readL l with
  | some t =>
    rw [hR] at r
    rw [try_ret (o := .rt (.lst none [.str "told", tabPV t]) [.fz (.int 1), .fz (.str (S l)), .fz (.bl nm), .un])]
    · rfl
    · cases nm <;> simp [pEq_int, truth, fzs, r, perm1]
  | none =>
    rw [hR] at r
    rw [try_raise (e := (⟨2, [("given", .str (S l))]⟩, [.fz (.int 1), .fz (.str (S l)), .fz (.bl nm), .un])) (v := .lst none [.str "text", .str (S l)])]
    · rfl
    · cases nm <;> simp [pEq_int, truth, fzs, r, perm1]
    · exact pick2 _
theorem asked1_bad (v : PV) (h : kn v = true) (hs : ∀ z, v ≠ .str z) (nm : Bool) : m__law_asked [.fz (.int 1), .fz v, .fz (.bl nm)] = .ret (.lst none [.str "text", v], [.un, .un, .un]) := by
  unfold m__law_asked
  rw [fnV_eq rfl]
  have r := read_bad v h hs
  unfold b__law_asked
  rw [try_raise (e := (⟨2, [("given", v)]⟩, [.fz (.int 1), .fz v, .fz (.bl nm), .un])) (v := .lst none [.str "text", v])]
  · rfl
  · cases nm <;> simp [pEq_int, truth, fzs, r, perm1]
  · exact pick2 _
theorem lawread_bad (v : PV) (h : kn v = true) (hs : ∀ z, v ≠ .str z) : m__law_read [.fz v] = .ret (.non, [.un]) := by
  unfold m__law_read
  rw [fnV_eq rfl]
  have e : isT "str" v = some false := by cases v <;> first | (simp [isT, tyN]; done) | exact absurd rfl (hs _) | cases h
  simp [b__law_read, pIsi, e, truth, outs, SV.own]
end k54

set_option Elab.async false
set_option linter.all false
set_option maxRecDepth 100000
set_option maxHeartbeats 1000000
namespace k54
open PySem PySem.Spec PyProof.Rows L2 VL
@[simp] theorem all_bind {ι ε α β : Type} (p : ι → Prop) (f : ι → Wp ε α) (g : α → Wp ε β) : (Wp.all p f).bind g = Wp.all p fun i => (f i).bind g := (rfl)
@[simp] theorem all_run {ι ε α : Type} (p : ι → Prop) (f : ι → Wp ε α) (K : α → Prop) (E : ε → Prop) : (Wp.all p f).run K E = ∀ i, p i → (f i).run K E := (rfl)
@[simp] theorem all_mapE {ι ε ε' α : Type} (p : ι → Prop) (f : ι → Wp ε α) (g : ε → ε') : (Wp.all p f).mapE g = Wp.all p fun i => (f i).mapE g := (rfl)
theorem take_step {ρ : Env'} {n : Nat} {m : Int} (h2 : ρ[2]? = some (.bx n)) (h0 : 0 < m) (h1 : m < 1073741824) (hn : n < 4294967296) :
    eCallB mTake 2 (aCons (eC (.int m)) aNil) ρ = .all (fun d : Int => 0 ≤ d ∧ d < m) fun d => .ret (.int d, ρ.set 2 (.bx (n + 1))) := by
  have o : ownAt ρ 2 = true := by unfold ownAt; rw [h2]; rfl
  rw [c_eCallB, if_pos o]
  simp only [c_aCons, c_aNil, c_eC, Wp.ret_bind]
  unfold boxCall
  rw [h2]
  have e : mTake (SV.bx n :: fzs [.int m]) = .all (fun d : Int => 0 ≤ d ∧ d < m) fun d => .ret (.int d, [.bx (n + 1), .un]) := by
    show (if 0 < m ∧ m < 1073741824 ∧ n < 4294967296 then _ else _) = _
    rw [if_pos ⟨h0, h1, hn⟩]
  dsimp only
  rw [if_pos (show (SV.bx n).own = true from rfl), e]
  rfl
theorem backE_gen {i : Nat} {ρ' ρ0 ρ1 : Env'} (h : ρ' = ρ1 ∨ ∃ y, ρ' = ρ1.set i (.fz y)) (h0 : ρ0[i]? = ρ1[i]?) (ho : ownAt ρ0 i = false) : backE ρ' ρ0 [i] = ρ1 := by
  have ho' : ownAt ρ1 i = false := by unfold ownAt at ho ⊢; rw [← h0]; exact ho
  have q := backE_one h ho'
  unfold backE backE at q ⊢
  rw [h0]
  exact q
abbrev cellG : GE := eOp2 pIx (eLst (lDisp (aCons (eC (.bl true)) (aCons (eC (.bl false)) (aCons (eC .non) aNil))))) (eCallB mTake 2 (aCons (eC (.int 3)) aNil))
theorem cell_run {ρ : Env'} {n : Nat} (h2 : ρ[2]? = some (.bx n)) (hn : n < 4294967296) {K : PV × Env' → Prop} {E : XE' → Prop} (h : ∀ o : Option Bool, K (cellPV o, ρ.set 2 (.bx (n + 1)))) : (cellG ρ).run K E := by
  have t := take_step (m := 3) h2 (by decide) (by decide) hn
  simp only [c_eOp2, c_eLst, c_lDisp, c_aCons, c_aNil, c_eC, Wp.ret_bind]
  rw [if_pos (sl_le (by simp))]
  simp only [Wp.ret_bind, t, all_bind, all_run]
  intro d hd
  have : d = 0 ∨ d = 1 ∨ d = 2 := by omega
  rcases this with rfl | rfl | rfl
  · exact h (some true)
  · exact h (some false)
  · exact h none
theorem lc12 {ρ : Env'} (hl : 12 < ρ.length) {E : XE' → Prop} : ∀ (xs : List PV) (n : Nat) (ρ1 : Env') {K : List PV × Env' → Prop}, n + xs.length < 4294967296 → (ρ1 = ρ.set 2 (.bx n) ∨ ∃ y, ρ1 = (ρ.set 2 (.bx n)).set 12 (.fz y)) →
    (∀ r : List (Option Bool), r.length = xs.length → ∀ ρ', (ρ' = ρ.set 2 (.bx (n + xs.length)) ∨ ∃ y, ρ' = (ρ.set 2 (.bx (n + xs.length))).set 12 (.fz y)) → K (r.map cellPV, ρ')) → (lcLoop [12] (gN 12) gYes cellG xs ρ1).run K E
  | [], n, ρ1, K, hn, h1, h => h [] rfl ρ1 h1
  | x :: xs, n, ρ1, K, hn, h1, h => by
    have e : gN 12 x (wipeE ρ1 [12]) = some ((ρ.set 2 (.bx n)).set 12 (.fz x)) := by
      unfold gN wipeE wipeE
      rcases h1 with rfl | ⟨y, rfl⟩
      · rw [List.set_set]
      · rw [List.set_set, List.set_set]
    unfold lcLoop
    rw [e]
    simp only [c_gYes, Wp.ret_bind, if_true]
    have hn' : n + (xs.length + 1) < 4294967296 := by simpa using hn
    have g2 : ((ρ.set 2 (.bx n)).set 12 (.fz x))[2]? = some (.bx n) := by
      rw [List.getElem?_set_ne (by decide), List.getElem?_set_self (by omega)]
    refine cell_run (E := E) g2 (by omega) fun o => ?_
    have e2 : ((ρ.set 2 (.bx n)).set 12 (.fz x)).set 2 (.bx (n + 1)) = (ρ.set 2 (.bx (n + 1))).set 12 (.fz x) := by
      rw [List.set_comm _ _ (by decide : (12 : Nat) ≠ 2), List.set_set]
    rw [e2]
    refine lc12 hl xs (n + 1) _ (by omega) (.inr ⟨x, rfl⟩) fun r hr ρ' hρ => h (o :: r) (by simp [hr]) ρ' ?_
    rw [show n + (x :: xs).length = n + 1 + xs.length from by simp; omega]
    exact hρ
theorem row_run {ρ : Env'} {n : Nat} (hl : 12 < ρ.length) (h2 : ρ[2]? = some (.bx n)) (ho : ownAt ρ 12 = false) (hn : n < 4000000000) {K : PV × Env' → Prop} {E : XE' → Prop} (h : ∀ r : List (Option Bool), r.length = 4 → K (rowPV r, ρ.set 2 (.bx (n + 4)))) :
    (eOp1 pTuple (eLst (lLc [12] (iRng (eC (.int 4))) (gN 12) gYes cellG)) ρ).run K E := by
  have rng : iRange (.int 4) = some [.int 0, .int 1, .int 2, .int 3] := iRange_len (n := 4) (by rw [sizeLine_eq]; decide)
  simp only [c_eOp1, c_eLst]
  unfold lLc
  simp only [c_iRng, c_eC, Wp.ret_bind, rng, lift'_some]
  have fr : frozenAt ρ [12] = true := by unfold frozenAt; simp [ho]
  have z4 : ([PV.int 0, .int 1, .int 2, .int 3] : List PV).length ≤ sizeLine := sl_le (by decide)
  rw [if_pos ⟨z4, fr⟩]
  have self : ρ = ρ.set 2 (.bx n) := by
    have := (List.getElem?_eq_some_iff.mp h2)
    obtain ⟨a, b⟩ := this
    rw [← b, List.set_getElem_self]
  refine lc12 (ρ := ρ) (E := fun _ => False) hl [.int 0, .int 1, .int 2, .int 3] n ρ (by simp; omega) (.inl self) fun r hr ρ' hρ => ?_
  have b := backE_gen (ρ0 := ρ) hρ (by rw [List.getElem?_set_ne (by decide)]) ho
  simp only [Wp.ret_bind, Wp.run_ret, b]
  simp only [lift_some, pTuple, Wp.run_ret]
  exact h r hr
abbrev rowG : GE := eOp1 pTuple (eLst (lLc [12] (iRng (eC (.int 4))) (gN 12) gYes cellG))
theorem lc19 {ρ : Env'} (hl : 19 < ρ.length) (ho : ownAt ρ 12 = false) {E : XE' → Prop} : ∀ (xs : List PV) (n : Nat) (ρ1 : Env') {K : List PV × Env' → Prop}, n + 4 * xs.length < 4000000000 → (ρ1 = ρ.set 2 (.bx n) ∨ ∃ y, ρ1 = (ρ.set 2 (.bx n)).set 19 (.fz y)) →
    (∀ t : List (List (Option Bool)), t.length = xs.length → (∀ r ∈ t, r.length = 4) → ∀ ρ', (ρ' = ρ.set 2 (.bx (n + 4 * xs.length)) ∨ ∃ y, ρ' = (ρ.set 2 (.bx (n + 4 * xs.length))).set 19 (.fz y)) → K (t.map rowPV, ρ')) → (lcLoop [19] (gN 19) gYes rowG xs ρ1).run K E
  | [], n, ρ1, K, hn, h1, h => h [] rfl (fun _ z => nomatch z) ρ1 h1
  | x :: xs, n, ρ1, K, hn, h1, h => by
    have e : gN 19 x (wipeE ρ1 [19]) = some ((ρ.set 2 (.bx n)).set 19 (.fz x)) := by
      unfold gN wipeE wipeE
      rcases h1 with rfl | ⟨y, rfl⟩
      · rw [List.set_set]
      · rw [List.set_set, List.set_set]
    unfold lcLoop
    rw [e]
    simp only [c_gYes, Wp.ret_bind, if_true]
    have hn' : n + 4 * (xs.length + 1) < 4000000000 := by simpa using hn
    have g2 : ((ρ.set 2 (.bx n)).set 19 (.fz x))[2]? = some (.bx n) := by
      rw [List.getElem?_set_ne (by decide), List.getElem?_set_self (by omega)]
    have g3 : ownAt ((ρ.set 2 (.bx n)).set 19 (.fz x)) 12 = false := by
      unfold ownAt at ho ⊢
      rw [List.getElem?_set_ne (by decide), List.getElem?_set_ne (by decide)]
      exact ho
    refine row_run (E := E) (by simp; omega) g2 g3 (by omega) fun r hr => ?_
    have e2 : ((ρ.set 2 (.bx n)).set 19 (.fz x)).set 2 (.bx (n + 4)) = (ρ.set 2 (.bx (n + 4))).set 19 (.fz x) := by
      rw [List.set_comm _ _ (by decide : (19 : Nat) ≠ 2), List.set_set]
    rw [e2]
    refine lc19 hl ho xs (n + 4) _ (by omega) (.inr ⟨x, rfl⟩) fun t ht htr ρ' hρ => h (r :: t) (by simp [ht]) (fun y hy => by
      rcases List.mem_cons.mp hy with rfl | hy
      · exact hr
      · exact htr y hy) ρ' ?_
    rw [show n + 4 * (x :: xs).length = n + 4 + 4 * xs.length from by simp; omega]
    exact hρ
theorem table_run {ρ : Env'} {n : Nat} (hl : 19 < ρ.length) (h2 : ρ[2]? = some (.bx n)) (ho : ownAt ρ 12 = false) (ho2 : ownAt ρ 19 = false) (hn : n < 3000000000) {K : PV × Env' → Prop} {E : XE' → Prop} (h : ∀ t, Tab t → K (tabPV t, ρ.set 2 (.bx (n + 16)))) :
    (eOp1 pTuple (eLst (lLc [19] (iRng (eC (.int 4))) (gN 19) gYes rowG)) ρ).run K E := by
  have rng : iRange (.int 4) = some [.int 0, .int 1, .int 2, .int 3] := iRange_len (n := 4) (by rw [sizeLine_eq]; decide)
  rw [c_eOp1, c_eLst]
  unfold lLc
  simp only [c_iRng, c_eC, Wp.ret_bind, rng, lift'_some]
  have fr : frozenAt ρ [19] = true := by unfold frozenAt; simp [ho2]
  have z4 : ([PV.int 0, .int 1, .int 2, .int 3] : List PV).length ≤ sizeLine := sl_le (by decide)
  rw [if_pos ⟨z4, fr⟩]
  have self : ρ = ρ.set 2 (.bx n) := by
    obtain ⟨a, b⟩ := (List.getElem?_eq_some_iff.mp h2)
    rw [← b, List.set_getElem_self]
  refine lc19 (ρ := ρ) (E := fun _ => False) hl ho [.int 0, .int 1, .int 2, .int 3] n ρ (by simp; omega) (.inl self) fun t ht htr ρ' hρ => ?_
  have b := backE_gen (ρ0 := ρ) hρ (by rw [List.getElem?_set_ne (by decide)]) ho2
  simp only [Wp.ret_bind, Wp.run_ret, b]
  simp only [lift_some, pTuple, Wp.run_ret]
  exact h t ⟨ht, htr⟩
end k54

set_option Elab.async false
set_option linter.all false
set_option maxRecDepth 100000
set_option maxHeartbeats 1000000
namespace k54
open PySem PySem.Spec PyProof.Rows L2 VL
theorem intsOf_map (ns : List Int) : intsOf (ns.map PV.int) = some ns := by
  induction ns with
  | nil => rfl
  | cons n ns ih => show (intsOf (ns.map PV.int)).map (fun ms => n :: ms) = _; rw [ih]; rfl
theorem cell_val (ns : List Int) (k : Nat) (hk : k < 1000) : ∃ c : Int, m__law_cell [.fz (.scr ns), .fz (.int k)] = .ret (.int c, [.un, .un]) := by
  unfold m__law_cell
  rw [fnV_eq rfl]
  have hm : pMul (.int 6007) (.int k) = some (.int (6007 * (k : Int))) := mul_ok (by decide) (by omega)
  have hs : pSum (.lst none ((cutP ns none (some 1)).map PV.int)) = some (.int (cutP ns none (some 1)).sum) := by
    show (intsOf _).map _ = _
    rw [intsOf_map]
    rfl
  have ho : pMod (.int (cutP ns none (some 1)).sum) (.int 1000033) = some (.int ((cutP ns none (some 1)).sum % 1000033)) := mod_ok (by decide)
  by_cases h : (k : Int) < ns.length
  · have hk2 : k < ns.length := by omega
    have e : pIx (.scr ns) (.int k) = some (.int ns[k]) := by
      show (atI ns (k : Int)).map PV.int = _
      rw [atI_nat' (List.getElem?_eq_getElem hk2)]
      rfl
    exact ⟨ns[k], by simp [b__law_cell, pLt, pLen, h, e, outs, SV.own]⟩
  · exact ⟨_, by simp [b__law_cell, pLt, pLen, h, hm, pSl, hs, pInt, ho, pAdd, outs, SV.own]; rfl⟩
theorem box_val (c : Int) : ∃ (a d : Int) (b : Bool), m__law_box [.int c] = .ret [.int a, .bl b, .int d, .int 0] ∧ 0 ≤ a ∧ 0 ≤ d ∧ d < 2147483629 := by
  obtain ⟨a, ha⟩ : ∃ a : Int, a = if c < 0 then -c else c := ⟨_, rfl⟩
  have h0 : 0 ≤ a := by rw [ha]; split <;> omega
  have e1 : pAbs (.int c) = some (.int a) := by rw [ha]; rfl
  have e2 : pPow (.int 10) (.int 18) = some (.int (10 ^ 18)) := pow_ok (j := 18) (by decide) (by decide)
  obtain ⟨g, hg⟩ : ∃ g : Int, g = 10 ^ 18 := ⟨_, rfl⟩
  rw [← hg] at e2
  have e3 : pMod (.int a) (.int 2147483629) = some (.int (a % 2147483629)) := mod_ok (by decide)
  refine ⟨a, a % 2147483629, decide (g ≤ a), ?_, h0, by omega, by omega⟩
  simp [m__law_box, fnL, b__law_box, fzs, e1, e2, e3, pGe, pInt]
theorem box_step {ρ : Env'} {ns : List Int} {k : Nat} (h0 : ρ[0]? = some (.fz (.scr ns))) (h1 : ρ[1]? = some (.fz (.int k))) (hk : k < 1000) :
    sBox 2 (lCall m__law_box (aCons (eCall m__law_cell (aCons (eVar 0) (aCons (eVar 1) aNil))) aNil)) ρ = .ret (.nx (ρ.set 2 (.bx 0))) := by
  obtain ⟨c, hc⟩ := cell_val ns k hk
  obtain ⟨a, d, b, hb, b0, b1, b2⟩ := box_val c
  unfold sBox lCall
  simp [h0, h1, fzs, hc, hb, b0, b1, b2]
theorem same_eq : ∀ n, m__law_same n = mSame n
  | 0 => rfl
  | n + 1 => by
    show fnV 3 noPin (b__law_same (m__law_same n)) = fnV 3 noPin (bSame (mSame n))
    rw [same_eq n]
    rfl
theorem told_len : (PySem.Str.ofString "told").length ≤ 16777216 := by decide +kernel
theorem sm_pair {n : Nat} {g g' : Option Addr} {v v' : PV} (h : Sm (n + 1) v v') : Sm (n + 2) (.lst g [.str "told", v]) (.lst g' [.str "told", v']) := by
  refine .lst rfl (sl_le (by simp)) fun i x y h1 h2 => ?_
  match i, h1, h2 with
  | 0, h1, h2 => cases h1; cases h2; exact .str _ (sl_le told_len)
  | 1, h1, h2 => cases h1; cases h2; exact h
  | i + 2, h1, h2 => cases h1
theorem sm_text {n : Nat} (l : List Nat) (h : l.length ≤ 1000000) : Sm (n + 1) (.str (S l)) (.str (S l)) := .str _ (sl_le (by rw [S_len]; omega))
theorem sm_cell {n : Nat} (o : Option Bool) : Sm (n + 1) (cellPV o) (cellPV o) := by
  rcases o with _ | b
  · exact .non
  · exact .bl b
theorem sm_row {n : Nat} {r : List (Option Bool)} (h : r.length = 4) : Sm (n + 2) (rowPV r) (rowPV r) := by
  refine .tup rfl (sl_le (by rw [List.length_map, h]; decide)) fun i x y h1 h2 => ?_
  rw [h1] at h2
  cases h2
  obtain ⟨o, _, rfl⟩ := List.mem_map.mp (List.mem_of_getElem? h1)
  exact sm_cell o
theorem sm_tab {n : Nat} {t : List (List (Option Bool))} (h : Tab t) : Sm (n + 3) (tabPV t) (tabPV t) := by
  refine .tup rfl (sl_le (by rw [List.length_map, h.1]; decide)) fun i x y h1 h2 => ?_
  rw [h1] at h2
  cases h2
  obtain ⟨r, hr, rfl⟩ := List.mem_map.mp (List.mem_of_getElem? h1)
  exact sm_row (h.2 r hr)
theorem same_run {a b : PV} (h : Sm 12 a b) : r__law_same [.fz a, .fz b] = .ret (.bl true, [.un, .un]) := by
  show m__law_same 12 _ = _
  rw [same_eq]
  exact same_ok 12 a b h
/-- a table's text is read back -/
theorem readL_txt {t : List (List (Option Bool))} (h : Tab t) : readL (txt t) = some t := by
  obtain ⟨h1, h2⟩ := h
  match t, h1 with
  | [a, b, c, d], _ =>
    have ha := h2 a (by simp)
    have hb := h2 b (by simp)
    have hc := h2 c (by simp)
    have hd := h2 d (by simp)
    match a, ha, b, hb, c, hc, d, hd with
    | [x0, x1, x2, x3], _, [y0, y1, y2, y3], _, [z0, z1, z2, z3], _, [w0, w1, w2, w3], _ =>
      have ok : ∀ o, okC (ch o) = true := fun o => by rcases o with _ | _ | _ <;> rfl
      have un : ∀ o, unC (ch o) = o := fun o => by rcases o with _ | _ | _ <;> rfl
      simp [readL, txt, rowAt, ok, un]
theorem txt_small (t : List (List (Option Bool))) : ∀ c ∈ txt t, c < 128 := fun c hc => by
  obtain ⟨r, _, h⟩ := List.mem_flatMap.mp hc
  rcases List.mem_append.mp h with h | h
  · obtain ⟨o, _, rfl⟩ := List.mem_map.mp h
    rcases o with _ | _ | _ <;> decide
  · simp at h; omega
abbrev turnB : GS := sSeq (sIf (gOr (gNot (gVal (eCall r__law_same (aCons (eCall m__law_asked (aCons (eC (.int 0)) (aCons (eVar 4) (aCons (eVar 3) (aNil))))) (aCons (eLst (lDisp (aCons (eC (.str "told")) (aCons (eVar 5) (aNil))))) (aNil)))))) (gNot (gVal (eCall r__law_same (aCons (eCall m__law_asked (aCons (eC (.int 1)) (aCons (eVar 5) (aCons (eNot (eVar 3)) (aNil))))) (aCons (eLst (lDisp (aCons (eC (.str "told")) (aCons (eVar 4) (aNil))))) (aNil))))))) (sRet (eC (.bl false))) (sNil)) (sSet 3 (eNot (eVar 3)))
theorem turn_one {t : List (List (Option Bool))} (h : Tab t) (nm : Bool) (a0 a1 a2 a6 a7 a8 a9 a10 a11 a12 a13 a14 a15 a16 a17 a18 a19 a20 : SV) : turnB [a0, a1, a2, .fz (.bl nm), .fz (tabPV t), .fz (.str (S (txt t))), a6, a7, a8, a9, a10, a11, a12, a13, a14, a15, a16, a17, a18, a19, a20] = .ret (.nx [a0, a1, a2, .fz (.bl (!nm)), .fz (tabPV t), .fz (.str (S (txt t))), a6, a7, a8, a9, a10, a11, a12, a13, a14, a15, a16, a17, a18, a19, a20]) := by
  have l20 := txt_len h
  have q0 := asked0_ok h nm
  have q1 := asked1_ok (txt t) (by omega) (!nm)
  rw [readL_txt h] at q1
  dsimp only at q1
  have s0 := same_run (sm_pair (n := 10) (g := none) (g' := none) (sm_text (n := 10) (txt t) (by omega)))
  have s1 := same_run (sm_pair (n := 10) (g := none) (g' := none) (sm_tab (n := 8) h))
  simp [fzs, q0, q1, s0, s1, truth]
theorem turn_run {t : List (List (Option Bool))} (h : Tab t) (nm : Bool) (a0 a1 a2 a6 a7 a8 a9 a10 a11 a12 a13 a14 a15 a16 a17 a18 a19 a20 : SV) : forLoop (gN 6) turnB [.int 0, .int 1] [a0, a1, a2, .fz (.bl nm), .fz (tabPV t), .fz (.str (S (txt t))), a6, a7, a8, a9, a10, a11, a12, a13, a14, a15, a16, a17, a18, a19, a20] = .ret (.nx [a0, a1, a2, .fz (.bl nm), .fz (tabPV t), .fz (.str (S (txt t))), .fz (.int 1), a7, a8, a9, a10, a11, a12, a13, a14, a15, a16, a17, a18, a19, a20]) := by
  have e1 := turn_one h nm a0 a1 a2 (.fz (.int 0)) a7 a8 a9 a10 a11 a12 a13 a14 a15 a16 a17 a18 a19 a20
  have e2 := turn_one h (!nm) a0 a1 a2 (.fz (.int 1)) a7 a8 a9 a10 a11 a12 a13 a14 a15 a16 a17 a18 a19 a20
  simp only [forLoop, gN, List.set_cons_succ, List.set_cons_zero, e1, e2, Wp.ret_bind, Bool.not_not]
end k54

set_option Elab.async false
set_option linter.all false
set_option maxRecDepth 100000
set_option maxHeartbeats 1000000
namespace k54
open PySem PySem.Spec PyProof.Rows L2 VL
def RT : RV → PV → Prop
  | .pv v, t => t = v.er
  | .ml xs, t => ∃ q, t = .lst (some q) (erL xs)
  | .md, t => ∃ q, t = .dic (some q) []
theorem forR_run {iv : Nat} {g : GS} {ρ : Env'} {K : Out → Prop} {E : XE' → Prop} : ∀ rs : List RV, (∀ r ∈ rs, ∀ t, RT r t → (∃ ρ', g (bodyE ρ iv t) = .ret (.nx ρ')) ∨ ∃ ρ', g (bodyE ρ iv t) = .ret (.th none ρ')) → K (.nx ρ) → (forR iv g rs ρ).run K E
  | [], _, h => h
  | r :: rs, hr, h => by
    have ih := forR_run rs (fun x hx => hr x (List.mem_cons_of_mem _ hx)) h (E := E)
    have key : ∀ t, RT r t → ((noE (g (bodyE ρ iv t)) : Wp XE' Out).bind fun o => match o with
        | .nx _ => forR iv g rs ρ
        | .ct _ => forR iv g rs ρ
        | .th none _ => forR iv g rs ρ
        | .rt v _ => .ret (.rt v.er ρ)
        | .th (some b) _ => .ret (.rt (.bl b) ρ)
        | .bk _ => .stuck).run K E := fun t ht => by
      rcases hr r List.mem_cons_self t ht with ⟨ρ', e⟩ | ⟨ρ', e⟩
      · rw [e]; exact ih
      · rw [e]; exact ih
    cases r with
    | pv v => exact key _ rfl
    | ml xs => exact fun q _ => key _ ⟨q, rfl⟩
    | md => exact fun q _ => key _ ⟨q, rfl⟩
theorem readL_tab {l : List Nat} {t : List (List (Option Bool))} (h : readL l = some t) : Tab t := by
  unfold readL at h
  split at h
  · rename_i hq
    cases h
    refine ⟨rfl, fun r hr => ?_⟩
    simp at hr
    rcases hr with rfl | rfl | rfl | rfl <;> simp [rowAt, hq.1]
  · cases h
theorem text_len : (PySem.Str.ofString "text").length ≤ 16777216 := by decide +kernel
abbrev body1 : GS := sSeq (sPar 18 17 (eCall m__law_read (aCons (eVar 9) (aNil))) (eCall m__law_asked (aCons (eC (.int 1)) (aCons (eVar 9) (aCons (eVar 3) (aNil)))))) (sIfH (hOr (gAnd (gBl (eOp2 pIsNot (eVar 18) (eC .non))) (gNot (gVal (eCall r__law_same (aCons (eVar 17) (aCons (eLst (lDisp (aCons (eC (.str "told")) (aCons (eVar 18) (aNil))))) (aNil))))))) (hAnd (gBl (eOp2 pIs (eVar 18) (eC .non))) (hOr (gBl (eOp2 pNe (eOp2 pIx (eVar 17) (eC (.int 0))) (eC (.str "text")))) (hNot (hVery r__law_same (eOp2 pIx (eVar 17) (eC (.int 1))) (eVar 9)))))) (sRet (eC (.bl false))))
theorem ix0 (a b : PV) : pIx (.lst none [a, b]) (.int 0) = some a := rfl
theorem ix1 (a b : PV) : pIx (.lst none [a, b]) (.int 1) = some b := rfl
@[simp] theorem c_sPar {i j : Nat} {g h : GE} {ρ : Env'} : sPar i j g h ρ = (g ρ).bind fun a => (h a.2).bind fun b => .ret (.nx ((b.2.set i (.fz a.1)).set j (.fz b.1))) := (rfl)
@[simp] theorem c_sIfH {t : GH} {g : GS} {ρ : Env'} : sIfH t g ρ = (t ρ).bind fun b => if b.2.1 = true then (if b.1 = true then .stuck else .ret (.th none (b.2.2.map SV.bxo))) else if b.1 = true then g b.2.2 else .ret (.nx b.2.2) := (rfl)
@[simp] theorem c_hOr {t : GT} {h : GH} {ρ : Env'} : hOr t h ρ = (t ρ).bind fun a => if a.1 = true then .ret (true, false, a.2) else h a.2 := (rfl)
@[simp] theorem c_hAnd {t : GT} {h : GH} {ρ : Env'} : hAnd t h ρ = (t ρ).bind fun a => if a.1 = true then h a.2 else .ret (false, false, a.2) := (rfl)
@[simp] theorem c_hNot {h : GH} {ρ : Env'} : hNot h ρ = (h ρ).bind fun a => .ret (!a.1, a.2.1, a.2.2) := (rfl)
theorem text_eq : pNe (.str "text") (.str "text") = some (.bl false) := by simp [pNe, eqB]
theorem it1_str (l : List Nat) (hz : l.length ≤ 1000000) (hc : ∀ c ∈ l, c < 128) (nm : Bool) (a0 a1 a2 a4 a5 a6 a7 a8 a10 a11 a12 a13 a14 a15 a16 a17 a18 a19 a20 : SV) : ∃ ρ', body1 [a0, a1, a2, .fz (.bl nm), a4, a5, a6, a7, a8, .fz (.str (S l)), a10, a11, a12, a13, a14, a15, a16, a17, a18, a19, a20] = .ret (.nx ρ') := by
  have q0 := lawread_ok l hz hc
  have q1 := asked1_ok l hz nm
  cases hR : readL l with
  | some t =>
    rw [hR] at q0 q1
    dsimp only at q0 q1
    have s := same_run (sm_pair (n := 10) (g := none) (g' := none) (sm_tab (n := 8) (readL_tab hR)))
    have e1 := pIsNot_non (tabPV t) rfl
    have e2 := pIs_non (tabPV t) rfl
    have e3 : isN (tabPV t) = false := rfl
    rw [e3] at e1 e2
    exact ⟨_, by simp [fzs, q0, q1, s, truth, e1, e2]; rfl⟩
  | none =>
    rw [hR] at q0 q1
    dsimp only at q0 q1
    have s := same_run (sm_text (n := 11) l hz)
    exact ⟨_, by simp [fzs, q0, q1, truth, pIsNot, pIs, ix0, ix1, text_eq, hVery, tyN, s]; rfl⟩
theorem it1_bad (v : PV) (h : kn v = true) (hs : ∀ z, v ≠ .str z) (hv : Sm 12 v v) (hl : ∀ g xs, v ≠ .lst g xs) (hd : ∀ g xs, v ≠ .dic g xs) (nm : Bool) (a0 a1 a2 a4 a5 a6 a7 a8 a10 a11 a12 a13 a14 a15 a16 a17 a18 a19 a20 : SV) : ∃ ρ', body1 [a0, a1, a2, .fz (.bl nm), a4, a5, a6, a7, a8, .fz (v), a10, a11, a12, a13, a14, a15, a16, a17, a18, a19, a20] = .ret (.nx ρ') := by
  have q0 := lawread_bad v h hs
  have q1 := asked1_bad v h hs nm
  have s := same_run hv
  have e : hVery r__law_same (eOp2 pIx (eVar 17) (eC (.int 1))) (eVar 9) [a0, a1, a2, .fz (.bl nm), a4, a5, a6, a7, a8, .fz v, a10, a11, a12, a13, a14, a15, a16, .fz (.lst none [.str "text", v]), .fz .non, a19, a20] = .ret (true, false, [a0, a1, a2, .fz (.bl nm), a4, a5, a6, a7, a8, .fz v, a10, a11, a12, a13, a14, a15, a16, .fz (.lst none [.str "text", v]), .fz .non, a19, a20]) := by
    cases v with
    | lst g xs => exact absurd rfl (hl g xs)
    | dic g xs => exact absurd rfl (hd g xs)
    | any => cases h
    | ins _ _ => cases h
    | scr _ => cases h
    | _ => simp [hVery, ix1, tyN, s]
  exact ⟨_, by simp [fzs, q0, q1, truth, pIsNot, pIs, ix0, ix1, text_eq, e]; rfl⟩
theorem it1_lst (q : Addr) (xs : List PV) (hx : xs.length < 1000000) (nm : Bool) (a0 a1 a2 a4 a5 a6 a7 a8 a10 a11 a12 a13 a14 a15 a16 a17 a18 a19 a20 : SV) : ∃ ρ', body1 [a0, a1, a2, .fz (.bl nm), a4, a5, a6, a7, a8, .fz (.lst (some q) xs), a10, a11, a12, a13, a14, a15, a16, a17, a18, a19, a20] = .ret (.th none ρ') := by
  have q0 := lawread_bad (.lst (some q) xs) rfl (fun _ z => nomatch z)
  have q1 := asked1_bad (.lst (some q) xs) rfl (fun _ z => nomatch z) nm
  have hz : xs.length < sizeLine := by rw [sizeLine_eq]; omega
  exact ⟨_, by simp [fzs, q0, q1, truth, pIsNot, pIs, ix0, ix1, text_eq, hVery, hz]; rfl⟩
end k54

set_option Elab.async false
set_option linter.all false
set_option maxRecDepth 100000
set_option maxHeartbeats 1000000
namespace k54
open PySem PySem.Spec PyProof.Rows L2 VL
theorem table_eq : pNe (.str "table") (.str "table") = some (.bl false) := by simp [pNe, eqB]
abbrev body2 : GS := sSeq (sSet 17 (eCall m__law_asked (aCons (eC (.int 0)) (aCons (eVar 9) (aCons (eVar 3) (aNil)))))) (sIfH (hOr (gVal (eCall m__law_is_table (aCons (eVar 9) (aNil)))) (hOr (gBl (eOp2 pNe (eOp2 pIx (eVar 17) (eC (.int 0))) (eC (.str "table")))) (hNot (hVery r__law_same (eOp2 pIx (eVar 17) (eC (.int 1))) (eVar 9))))) (sRet (eC (.bl false))))
theorem it2_bad (v : PV) (h : kn2 v = true) (hb : tabB' v = false) (hr : ∀ xs, v = .tup xs → xs.length = 4 → ∀ y ∈ xs, rk y) (hv : Sm 12 v v) (hl : ∀ g xs, v ≠ .lst g xs) (hd : ∀ g xs, v ≠ .dic g xs) (nm : Bool) (a0 a1 a2 a4 a5 a6 a7 a8 a10 a11 a12 a13 a14 a15 a16 a17 a18 a19 a20 : SV) : ∃ ρ', body2 [a0, a1, a2, .fz (.bl nm), a4, a5, a6, a7, a8, .fz (v), a10, a11, a12, a13, a14, a15, a16, a17, a18, a19, a20] = .ret (.nx ρ') := by
  have q0 := asked0_bad v h hb nm
  have q1 := lawtab_ok v h hr
  rw [hb] at q1
  have s := same_run hv
  have k := kn2_kn h
  have e : hVery r__law_same (eOp2 pIx (eVar 17) (eC (.int 1))) (eVar 9) [a0, a1, a2, .fz (.bl nm), a4, a5, a6, a7, a8, .fz v, a10, a11, a12, a13, a14, a15, a16, .fz (.lst none [.str "table", v]), a18, a19, a20] = .ret (true, false, [a0, a1, a2, .fz (.bl nm), a4, a5, a6, a7, a8, .fz v, a10, a11, a12, a13, a14, a15, a16, .fz (.lst none [.str "table", v]), a18, a19, a20]) := by
    cases v with
    | lst g xs => exact absurd rfl (hl g xs)
    | dic g xs => exact absurd rfl (hd g xs)
    | any => cases k
    | ins _ _ => cases k
    | scr _ => cases k
    | _ => simp [hVery, ix1, tyN, s]
  exact ⟨_, by simp [fzs, q0, q1, truth, ix0, ix1, table_eq, e]; rfl⟩
theorem it2_lst (q : Addr) (xs : List PV) (hx : xs.length < 1000000) (nm : Bool) (a0 a1 a2 a4 a5 a6 a7 a8 a10 a11 a12 a13 a14 a15 a16 a17 a18 a19 a20 : SV) : ∃ ρ', body2 [a0, a1, a2, .fz (.bl nm), a4, a5, a6, a7, a8, .fz (.lst (some q) xs), a10, a11, a12, a13, a14, a15, a16, a17, a18, a19, a20] = .ret (.th none ρ') := by
  have k : kn2 (.lst (some q) xs) = true := by simp [kn2]; omega
  have q0 := asked0_bad (.lst (some q) xs) k rfl nm
  have q1 : m__law_is_table [.fz (.lst (some q) xs)] = .ret (.bl false, [.un]) := lawtab_ok (.lst (some q) xs) k (fun _ z => nomatch z)
  have hz : xs.length < sizeLine := by rw [sizeLine_eq]; omega
  exact ⟨_, by simp [fzs, q0, q1, truth, ix0, ix1, table_eq, hVery, hz]; rfl⟩
theorem it2_dic (q : Addr) (nm : Bool) (a0 a1 a2 a4 a5 a6 a7 a8 a10 a11 a12 a13 a14 a15 a16 a17 a18 a19 a20 : SV) : ∃ ρ', body2 [a0, a1, a2, .fz (.bl nm), a4, a5, a6, a7, a8, .fz (.dic (some q) []), a10, a11, a12, a13, a14, a15, a16, a17, a18, a19, a20] = .ret (.th none ρ') := by
  have q0 := asked0_bad (.dic (some q) []) rfl rfl nm
  have q1 : m__law_is_table [.fz (.dic (some q) [])] = .ret (.bl false, [.un]) := lawtab_ok (.dic (some q) []) rfl (fun _ z => nomatch z)
  exact ⟨_, by simp [fzs, q0, q1, truth, ix0, ix1, table_eq, hVery]; rfl⟩
/-! ### the texts that the law tries -/
theorem er_cell (o : Option Bool) : (cellPV o).er = cellPV o := by rcases o with _ | _ <;> simp [cellPV, PV.er]
theorem erL_map {f : α → PV} {xs : List α} (h : ∀ x ∈ xs, (f x).er = f x) : erL (xs.map f) = xs.map f := by
  induction xs with
  | nil => simp [erL]
  | cons x xs ih => simp [erL, h x, ih fun y hy => h y (List.mem_cons_of_mem _ hy)]
theorem er_row (r : List (Option Bool)) : (rowPV r).er = rowPV r := by
  simp only [rowPV, PV.er, erL_map fun o _ => er_cell o]
theorem er_tab (t : List (List (Option Bool))) : (tabPV t).er = tabPV t := by
  simp only [tabPV, PV.er, erL_map fun r _ => er_row r]
theorem pSl_to (l : List Nat) (b : Nat) (hb : b ≤ l.length) (hz : l.length ≤ 1000000) : pSl (.str (S l)) none (some (b : Int)) = some (.str (S (l.take b))) := by
  have hz2 : (S l).length ≤ sizeLine := sl_le (by rw [S_len]; omega)
  show (if (S l).length ≤ sizeLine then some (PV.str (Txt.slice (S l) none (some (b : Int)))) else none) = _
  rw [if_pos hz2, slice_to l hb]
theorem pSl_from (l : List Nat) (a : Nat) (ha : a ≤ l.length) (hz : l.length ≤ 1000000) : pSl (.str (S l)) (some (a : Int)) none = some (.str (S (l.drop a))) := by
  have hz2 : (S l).length ≤ sizeLine := sl_le (by rw [S_len]; omega)
  show (if (S l).length ≤ sizeLine then some (PV.str (Txt.slice (S l) (some (a : Int)) none)) else none) = _
  rw [if_pos hz2, slice_from l ha]
theorem pSl_neg1 (l : List Nat) (h1 : 1 ≤ l.length) (hz : l.length ≤ 1000000) : pSl (.str (S l)) none (some (-1)) = some (.str (S (l.take (l.length - 1)))) := by
  have hz2 : (S l).length ≤ sizeLine := sl_le (by rw [S_len]; omega)
  show (if (S l).length ≤ sizeLine then some (PV.str (Txt.slice (S l) none (some (-1)))) else none) = _
  rw [if_pos hz2, slice_neg1 l h1]
/-- the seven spoilt texts -/
def vals (l : List Nat) (at_ : Nat) (c : Nat) : List (List Nat) := [l.take at_ ++ [c] ++ l.drop (at_ + 1), l.take at_ ++ l.drop (at_ + 1), l.take at_ ++ [c] ++ l.drop at_, l.take (l.length - 1), l ++ [10], l.take 15, l ++ l.take 5]
abbrev valG : GL := lDisp (aCons (eOp2 pAdd (eOp2 pAdd (eSl pSl (eVar 5) (oNone) (oSome (eVar 15))) (eVar 7)) (eSl pSl (eVar 5) (oSome (eOp2 pAdd (eVar 15) (eC (.int 1)))) (oNone))) (aCons (eOp2 pAdd (eSl pSl (eVar 5) (oNone) (oSome (eVar 15))) (eSl pSl (eVar 5) (oSome (eOp2 pAdd (eVar 15) (eC (.int 1)))) (oNone))) (aCons (eOp2 pAdd (eOp2 pAdd (eSl pSl (eVar 5) (oNone) (oSome (eVar 15))) (eVar 7)) (eSl pSl (eVar 5) (oSome (eVar 15)) (oNone))) (aCons (eSl pSl (eVar 5) (oNone) (oSome (eOp1 pNeg (eC (.int 1))))) (aCons (eOp2 pAdd (eVar 5) (eC (.str "\n"))) (aCons (eSl pSl (eVar 5) (oNone) (oSome (eC (.int 15)))) (aCons (eOp2 pAdd (eVar 5) (eSl pSl (eVar 5) (oNone) (oSome (eC (.int 5))))) (aNil))))))))
theorem vals_run (l : List Nat) (hl : l.length = 20) (k c : Nat) (hk : k < 20) (ρ : Env') (h5 : ρ[5]? = some (.fz (.str (S l)))) (h7 : ρ[7]? = some (.fz (.str (S [c])))) (h15 : ρ[15]? = some (.fz (.int k))) : valG ρ = .ret ((vals l k c).map fun p => PV.str (S p), ρ) := by
  have s1 := pSl_to l k (by omega) (by omega)
  have s2 := pSl_from l (k + 1) (by omega) (by omega)
  have s3 := pSl_from l k (by omega) (by omega)
  have s4 := pSl_neg1 l (by omega) (by omega)
  have s5 := pSl_to l 15 (by omega) (by omega)
  have s6 := pSl_to l 5 (by omega) (by omega)
  rw [show ((k + 1 : Nat) : Int) = (k : Int) + 1 from by omega] at s2
  have p1 := pAdd_S (l.take k) [c] (by simp; omega)
  have p2 := pAdd_S (l.take k ++ [c]) (l.drop (k + 1)) (by simp; omega)
  have p3 := pAdd_S (l.take k) (l.drop (k + 1)) (by simp; omega)
  have p4 := pAdd_S (l.take k ++ [c]) (l.drop k) (by simp; omega)
  have p5 := pAdd_S l [10] (by simp; omega)
  have p6 := pAdd_S l (l.take 5) (by simp; omega)
  have p7 : pAdd (.int k) (.int 1) = some (.int ((k : Int) + 1)) := rfl
  have s5' : pSl (.str (S l)) none (some 15) = some (.str (S (l.take 15))) := s5
  have s6' : pSl (.str (S l)) none (some 5) = some (.str (S (l.take 5))) := s6
  have n1 : pNeg (.int 1) = some (.int (-1)) := rfl
  rw [← S_n] at p5
  simp only [c_lDisp, c_aCons, c_aNil, c_eOp2, c_eOp1, c_eSl, c_oNone, c_oSome, c_eVar', c_eC, h5, h7, h15, Wp.ret_bind, s1, s2, s3, s4, s5', s6', lift_some, p1, p2, p3, p4, p5, p6, p7, n1]
  rw [if_pos (sl_le (by simp))]
  rfl
end k54

set_option Elab.async false
set_option linter.all false
set_option maxRecDepth 100000
set_option maxHeartbeats 1000000
namespace k54
open PySem PySem.Spec PyProof.Rows L2 VL
/-! ### the spoilt tables -/
theorem cut_to {α : Type} (xs : List α) (b : Nat) (hb : b ≤ xs.length) : cutP xs none (some (b : Int)) = xs.take b := by
  unfold cutP
  have e1 : HT.sIx xs.length 0 none = 0 := rfl
  have e2 : HT.sIx xs.length xs.length (some (b : Int)) = b := by unfold HT.sIx; simp; rw [if_neg (by omega)]; omega
  rw [e1, e2]
  simp
theorem cut_from {α : Type} (xs : List α) (a : Nat) (ha : a ≤ xs.length) : cutP xs (some (a : Int)) none = xs.drop a := by
  unfold cutP
  have e1 : HT.sIx xs.length xs.length none = xs.length := rfl
  have e2 : HT.sIx xs.length 0 (some (a : Int)) = a := by unfold HT.sIx; simp; rw [if_neg (by omega)]; omega
  rw [e1, e2]
  rw [List.take_of_length_le (by rw [List.length_drop]; omega)]
theorem mem_cut {α : Type} {xs : List α} {lo hi : Option Int} {x : α} (h : x ∈ cutP xs lo hi) : x ∈ xs := List.mem_of_mem_drop (List.mem_of_mem_take h)
structure G2 (v : PV) : Prop where
  k : kn2 v = true
  b : tabB' v = false
  r : ∀ xs, v = .tup xs → xs.length = 4 → ∀ y ∈ xs, rk y
  s : Sm 12 v v
  l : ∀ g xs, v ≠ .lst g xs
  d : ∀ g xs, v ≠ .dic g xs
  e : v.er = v
/-- what may stand in the place of a row -/
structure G1 (v : PV) : Prop where
  r : rk v
  b : rowB v = false
  s : Sm 11 v v
  e : v.er = v
theorem rk_row {r : List (Option Bool)} (h : r.length = 4) : rk (rowPV r) := by
  refine ⟨(row_kn h).1, fun xs e _ => ?_⟩
  cases e
  have f : (r.map cellPV).filter (fun x => !isC x) = [] := filter_none fun x hx => by
    obtain ⟨o, _, rfl⟩ := List.mem_map.mp hx
    rw [isC_cell]; rfl
  have g : (r.map cellPV).all isC = true := by simp [List.all_map, isC_cell]
  rw [f, g]
  exact eqB_nil
theorem sm_seq {n : Nat} {xs : List PV} (hz : xs.length ≤ 1000000) (h : ∀ x ∈ xs, Sm n x x) : Sm (n + 1) (.tup xs) (.tup xs) := by
  refine .tup rfl (sl_le (by omega)) fun i x y h1 h2 => ?_
  rw [h1] at h2
  cases h2
  exact h x (List.mem_of_getElem? h1)
theorem bad_row {t : List (List (Option Bool))} (h : Tab t) {i : Nat} (hi : i < 4) {v : PV} (g : G1 v) : G2 (.tup ((t.map rowPV).take i ++ [v] ++ (t.map rowPV).drop (i + 1))) := by
  have hm : ∀ y ∈ (t.map rowPV).take i ++ [v] ++ (t.map rowPV).drop (i + 1), (∃ r, r ∈ t ∧ y = rowPV r) ∨ y = v := fun y hy => by
    simp only [List.mem_append, List.mem_singleton] at hy
    rcases hy with (hy | hy) | hy
    · obtain ⟨r, hr, e⟩ := List.mem_map.mp (List.mem_of_mem_take hy)
      exact .inl ⟨r, hr, e.symm⟩
    · exact .inr hy
    · obtain ⟨r, hr, e⟩ := List.mem_map.mp (List.mem_of_mem_drop hy)
      exact .inl ⟨r, hr, e.symm⟩
  have hl : ((t.map rowPV).take i ++ [v] ++ (t.map rowPV).drop (i + 1)).length = 4 := by simp [h.1]; omega
  have hr : ∀ y ∈ (t.map rowPV).take i ++ [v] ++ (t.map rowPV).drop (i + 1), rk y := fun y hy => by
    rcases hm y hy with ⟨r, h1, rfl⟩ | rfl
    · exact rk_row (h.2 r h1)
    · exact g.r
  refine ⟨?_, ?_, fun xs e _ => by cases e; exact hr, sm_seq (by omega) fun x hx => ?_, (fun _ _ z => nomatch z), (fun _ _ z => nomatch z), ?_⟩
  · simp only [kn2, Bool.and_eq_true, decide_eq_true_eq, List.all_eq_true]
    exact ⟨by omega, fun y hy => (hr y hy).1⟩
  · simp [tabB', g.b]
  · rcases hm x hx with ⟨r, h1, rfl⟩ | rfl
    · exact sm_row (n := 9) (h.2 r h1)
    · exact g.s
  · simp only [PV.er]
    have : ∀ xs : List PV, (∀ x ∈ xs, x.er = x) → erL xs = xs := fun xs hx => by
      have := erL_map (f := id) (xs := xs) hx
      simpa using this
    rw [this _ fun x hx => by
      rcases hm x hx with ⟨r, h1, rfl⟩ | rfl
      · exact er_row r
      · exact g.e]
/-- what may stand in the place of a cell -/
structure G0 (v : PV) : Prop where
  k : kn v = true
  b : isC v = false
  q : eqB (.lst none [v]) (.lst none []) = some false
  s : Sm 10 v v
  e : v.er = v
theorem g0_int (i : Int) : G0 (.int i) := ⟨rfl, rfl, eq_ints [i], .int i, by simp [PV.er]⟩
theorem g0_p : G0 (.str "+") := ⟨rfl, rfl, by rw [S_p]; exact eq_strs [43] (by decide), .str _ (sl_le (by decide +kernel)), by simp [PV.er]⟩
theorem sm_lt : Sm 10 (.lst none [.bl true]) (.lst none [.bl true]) := by
  refine .lst rfl (sl_le (by decide)) fun i x y h1 h2 => ?_
  rw [h1] at h2
  cases h2
  match i, h1 with
  | 0, h1 => cases h1; exact .bl true
  | i + 1, h1 => cases h1
theorem g0_l : G0 (.lst none [.bl true]) := ⟨rfl, rfl, by decide +kernel, sm_lt, by simp [PV.er, erL]⟩
theorem bad_cell {r : List (Option Bool)} (h : r.length = 4) {i : Nat} (hi : i < 4) {v : PV} (g : G0 v) : G1 (.tup ((r.map cellPV).take i ++ [v] ++ (r.map cellPV).drop (i + 1))) := by
  have hm : ∀ y ∈ (r.map cellPV).take i ++ [v] ++ (r.map cellPV).drop (i + 1), (∃ o, y = cellPV o) ∨ y = v := fun y hy => by
    simp only [List.mem_append, List.mem_singleton] at hy
    rcases hy with (hy | hy) | hy
    · obtain ⟨o, _, e⟩ := List.mem_map.mp (List.mem_of_mem_take hy)
      exact .inl ⟨o, e.symm⟩
    · exact .inr hy
    · obtain ⟨o, _, e⟩ := List.mem_map.mp (List.mem_of_mem_drop hy)
      exact .inl ⟨o, e.symm⟩
  have hl : ((r.map cellPV).take i ++ [v] ++ (r.map cellPV).drop (i + 1)).length = 4 := by simp [h]; omega
  have cl : ∀ xs : List PV, (∀ x ∈ xs, x ∈ r.map cellPV) → xs.filter (fun x => !isC x) = [] := fun xs hx => filter_none fun x h1 => by
    obtain ⟨o, _, rfl⟩ := List.mem_map.mp (hx x h1)
    rw [isC_cell]; rfl
  have f : ((r.map cellPV).take i ++ [v] ++ (r.map cellPV).drop (i + 1)).filter (fun x => !isC x) = [v] := by
    rw [List.filter_append, List.filter_append, cl _ fun x hx => List.mem_of_mem_take hx, cl _ fun x hx => List.mem_of_mem_drop hx]
    simp [g.b]
  have al : ((r.map cellPV).take i ++ [v] ++ (r.map cellPV).drop (i + 1)).all isC = false := by simp [g.b]
  refine ⟨⟨?_, fun xs e _ => by cases e; rw [f, al]; exact g.q⟩, by simp [rowB, g.b], sm_seq (by omega) fun x hx => ?_, ?_⟩
  · simp only [kn1, Bool.and_eq_true, decide_eq_true_eq, List.all_eq_true]
    refine ⟨by omega, fun y hy => ?_⟩
    rcases hm y hy with ⟨o, rfl⟩ | rfl
    · exact kn_cell o
    · exact g.k
  · rcases hm x hx with ⟨o, rfl⟩ | rfl
    · exact sm_cell o
    · exact g.s
  · simp only [PV.er]
    have : ∀ xs : List PV, (∀ x ∈ xs, x.er = x) → erL xs = xs := fun xs hx => by
      have := erL_map (f := id) (xs := xs) hx
      simpa using this
    rw [this _ fun x hx => by
      rcases hm x hx with ⟨o, rfl⟩ | rfl
      · exact er_cell o
      · exact g.e]
end k54

set_option Elab.async false
set_option linter.all false
set_option maxRecDepth 100000
set_option maxHeartbeats 1000000
namespace k54
open PySem PySem.Spec PyProof.Rows L2 VL
def ones (r : List (Option Bool)) (late : Nat) (odd : PV) : List PV := [.tup ((r.map cellPV).take late ++ [odd] ++ (r.map cellPV).drop (late + 1)), .tup ((r.map cellPV).drop 1), .tup (r.map cellPV ++ [.non]), .lst none (r.map cellPV), .non, .str "+-+-"]
theorem erL_cells (xs : List PV) (h : ∀ x ∈ xs, ∃ o, x = cellPV o) : erL xs = xs := by
  have := erL_map (f := id) (xs := xs) (fun x hx => by
    obtain ⟨o, rfl⟩ := h x hx
    exact er_cell o)
  simpa using this
theorem ones_g1 {r : List (Option Bool)} (h : r.length = 4) {late : Nat} (hl : late < 4) {odd : PV} (g : G0 odd) : ∀ v ∈ ones r late odd, G1 v := fun v hv => by
  have c1 : ∀ x ∈ (r.map cellPV).drop 1, ∃ o, x = cellPV o := fun x hx => by
    obtain ⟨o, _, e⟩ := List.mem_map.mp (List.mem_of_mem_drop hx)
    exact ⟨o, e.symm⟩
  have c2 : ∀ x ∈ r.map cellPV ++ [PV.non], ∃ o, x = cellPV o := fun x hx => by
    rcases List.mem_append.mp hx with hx | hx
    · obtain ⟨o, _, e⟩ := List.mem_map.mp hx
      exact ⟨o, e.symm⟩
    · simp at hx; exact ⟨none, hx⟩
  have c3 : ∀ x ∈ r.map cellPV, ∃ o, x = cellPV o := fun x hx => by
    obtain ⟨o, _, e⟩ := List.mem_map.mp hx
    exact ⟨o, e.symm⟩
  simp only [ones, List.mem_cons, List.not_mem_nil, or_false] at hv
  rcases hv with rfl | rfl | rfl | rfl | rfl | rfl
  · exact bad_cell h hl g
  · refine ⟨⟨?_, fun xs e hx => by cases e; simp [h] at hx⟩, by simp [rowB, h], sm_seq (by simp [h]) fun x hx => ?_, by simp only [PV.er, erL_cells _ c1]⟩
    · simp only [kn1, Bool.and_eq_true, decide_eq_true_eq, List.all_eq_true]
      exact ⟨by simp [h], fun y hy => by obtain ⟨o, rfl⟩ := c1 y hy; exact kn_cell o⟩
    · obtain ⟨o, rfl⟩ := c1 x hx; exact sm_cell o
  · refine ⟨⟨?_, fun xs e hx => by cases e; simp [h] at hx⟩, by simp [rowB, h], sm_seq (by simp [h]) fun x hx => ?_, by simp only [PV.er, erL_cells _ c2]⟩
    · simp only [kn1, Bool.and_eq_true, decide_eq_true_eq, List.all_eq_true]
      exact ⟨by simp [h], fun y hy => by obtain ⟨o, rfl⟩ := c2 y hy; exact kn_cell o⟩
    · obtain ⟨o, rfl⟩ := c2 x hx; exact sm_cell o
  · refine ⟨⟨by simp [kn1, h], fun xs e _ => by cases e⟩, rfl, ?_, by simp only [PV.er, erL_cells _ c3]⟩
    refine .lst rfl (sl_le (by simp [h])) fun i x y h1 h2 => ?_
    rw [h1] at h2
    cases h2
    obtain ⟨o, rfl⟩ := c3 x (List.mem_of_getElem? h1)
    exact sm_cell o
  · exact ⟨⟨rfl, fun xs e _ => by cases e⟩, rfl, .non, by simp [PV.er]⟩
  · exact ⟨⟨by decide +kernel, fun xs e _ => by cases e⟩, rfl, .str _ (sl_le (by decide +kernel)), by simp [PV.er]⟩
abbrev rowsG : GL := lDisp (aCons (eOp2 pAdd (eOp2 pAdd (eSl pSl (eVar 10) (oNone) (oSome (eVar 12))) (eTup (aCons (eVar 11) (aNil)))) (eSl pSl (eVar 10) (oSome (eOp2 pAdd (eVar 12) (eC (.int 1)))) (oNone))) (aCons (eSl pSl (eVar 10) (oSome (eC (.int 1))) (oNone)) (aCons (eOp2 pAdd (eVar 10) (eTup (aCons (eC .non) (aNil)))) (aCons (eLst (lOp1 lList (eVar 10))) (aCons (eC .non) (aCons (eC (.str "+-+-")) (aNil)))))))
theorem pAdd_tup (a b : List PV) (h : a.length + b.length ≤ 16777216) : pAdd (.tup a) (.tup b) = some (.tup (a ++ b)) := by
  show (if a.length + b.length ≤ sizeLine then some (PV.tup (a ++ b)) else none) = _
  rw [if_pos (sl_le h)]
theorem pSl_tupTo (xs : List PV) (b : Nat) (hb : b ≤ xs.length) : pSl (.tup xs) none (some (b : Int)) = some (.tup (xs.take b)) := by
  show some (PV.tup (cutP xs none (some (b : Int)))) = _
  rw [cut_to xs b hb]
theorem pSl_tupFrom (xs : List PV) (a : Nat) (ha : a ≤ xs.length) : pSl (.tup xs) (some (a : Int)) none = some (.tup (xs.drop a)) := by
  show some (PV.tup (cutP xs (some (a : Int)) none)) = _
  rw [cut_from xs a ha]
theorem rows_run (r : List (Option Bool)) (h : r.length = 4) (late : Nat) (hl : late < 4) (odd : PV) (ρ : Env') (h10 : ρ[10]? = some (.fz (rowPV r))) (h11 : ρ[11]? = some (.fz odd)) (h12 : ρ[12]? = some (.fz (.int late))) : rowsG ρ = .ret (ones r late odd, ρ) := by
  have l4 : (r.map cellPV).length = 4 := by simp [h]
  have s1 := pSl_tupTo (r.map cellPV) late (by omega)
  have s2 := pSl_tupFrom (r.map cellPV) (late + 1) (by omega)
  have s3 : pSl (.tup (r.map cellPV)) (some 1) none = some (.tup ((r.map cellPV).drop 1)) := pSl_tupFrom (r.map cellPV) 1 (by omega)
  rw [show ((late + 1 : Nat) : Int) = (late : Int) + 1 from by omega] at s2
  have p1 := pAdd_tup ((r.map cellPV).take late) [odd] (by simp; omega)
  have p2 := pAdd_tup ((r.map cellPV).take late ++ [odd]) ((r.map cellPV).drop (late + 1)) (by simp; omega)
  have p3 := pAdd_tup (r.map cellPV) [.non] (by simp; omega)
  have p7 : pAdd (.int late) (.int 1) = some (.int ((late : Int) + 1)) := rfl
  have z1 : ([odd] : List PV).length ≤ sizeLine := sl_le (by simp)
  have z2 : ([.non] : List PV).length ≤ sizeLine := sl_le (by simp)
  have e1 : lList (.tup (r.map cellPV)) = some (r.map cellPV) := rfl
  unfold rowPV at h10
  simp only [c_lDisp, c_aCons, c_aNil, c_eOp2, c_eOp1, c_eSl, c_oNone, c_oSome, c_eVar', c_eC, c_eTup, c_eLst, c_lOp1, h10, h11, h12, Wp.ret_bind, s1, s2, s3, lift_some, p1, p2, p3, p7, e1, lift'_some, if_pos z1, if_pos z2]
  rw [if_pos (sl_le (by simp))]
  rfl
end k54

set_option Elab.async false
set_option linter.all false
set_option maxRecDepth 100000
set_option maxHeartbeats 1000000
namespace k54
open PySem PySem.Spec PyProof.Rows L2 VL
@[simp] theorem c_rNil {ρ : Env'} : rNil ρ = .ret ([], ρ) := (rfl)
@[simp] theorem c_rPv {g : GE} {h : GR} {ρ : Env'} : rPv g h ρ = (g ρ).bind fun a => (h a.2).bind fun b => .ret (.pv a.1 :: b.1, b.2) := (rfl)
@[simp] theorem c_rMl {g : GL} {h : GR} {ρ : Env'} : rMl g h ρ = (g ρ).bind fun a => (h a.2).bind fun b => .ret (.ml a.1 :: b.1, b.2) := (rfl)
@[simp] theorem c_rMd {h : GR} {ρ : Env'} : rMd h ρ = (h ρ).bind fun b => .ret (.md :: b.1, b.2) := (rfl)
@[simp] theorem c_rDisp {g : GR} {ρ : Env'} : rDisp g ρ = (g ρ).bind fun a => if a.1.length ≤ sizeLine then .ret a else .stuck := (rfl)
@[simp] theorem c_rAdd {g : GE} {h : GR} {ρ : Env'} : rAdd g h ρ = (g ρ).bind fun a => match a.1 with
  | .lst _ xs => (h a.2).bind fun b => if xs.length + b.1.length ≤ sizeLine then .ret (xs.map .pv ++ b.1, b.2) else .stuck
  | _ => .stuck := (rfl)
@[simp] theorem c_rSl {g : GR} {l : GO} {ρ : Env'} : rSl g l ρ = (g ρ).bind fun a => (l a.2).bind fun i => .ret (cutP a.1 i.1 none, i.2) := (rfl)
abbrev gB : GE := eOp2 pAdd (eOp2 pAdd (eSl pSl (eVar 4) (oNone) (oSome (eVar 16))) (eTup (aCons (eVar 20) (aNil)))) (eSl pSl (eVar 4) (oSome (eOp2 pAdd (eVar 16) (eC (.int 1)))) (oNone))
abbrev badG : GR := rAdd (eLst (lLc [20] (iSeq (eVar 13)) (gN 20) (gYes) gB)) (rDisp (rMl (lOp1 lList (eVar 4)) (rPv (eSl pSl (eVar 4) (oNone) (oSome (eC (.int 3)))) (rPv (eOp2 pAdd (eVar 4) (eSl pSl (eVar 4) (oNone) (oSome (eC (.int 1))))) (rPv (eC .non) (rPv (eVar 5) (rMd (rPv (eTup (aNil)) (rNil)))))))))
def bads (t : List (List (Option Bool))) (row : Nat) (os : List PV) : List RV := (os.map fun v => PV.tup ((t.map rowPV).take row ++ [v] ++ (t.map rowPV).drop (row + 1))).map .pv ++
  [.ml (t.map rowPV), .pv (.tup ((t.map rowPV).take 3)), .pv (.tup (t.map rowPV ++ (t.map rowPV).take 1)), .pv .non, .pv (.str (S (txt t))), .md, .pv (.tup [])]
theorem bad_run {t : List (List (Option Bool))} (h : Tab t) (row : Nat) (hr : row < 4) (os : List PV) (ho : os.length = 6) (ρ : Env') (hl : ρ.length = 21) (h4 : ρ[4]? = some (.fz (tabPV t))) (h5 : ρ[5]? = some (.fz (.str (S (txt t))))) (h13 : ρ[13]? = some (.fz (.lst none os))) (h16 : ρ[16]? = some (.fz (.int row))) (h20 : ownAt ρ 20 = false) :
    badG ρ = .ret (bads t row os, ρ) := by
  have l4 : (t.map rowPV).length = 4 := by simp [h.1]
  unfold tabPV at h4
  have s1 := pSl_tupTo (t.map rowPV) row (by omega)
  have s2 := pSl_tupFrom (t.map rowPV) (row + 1) (by omega)
  have s3 : pSl (.tup (t.map rowPV)) none (some 3) = some (.tup ((t.map rowPV).take 3)) := pSl_tupTo (t.map rowPV) 3 (by omega)
  have s4 : pSl (.tup (t.map rowPV)) none (some 1) = some (.tup ((t.map rowPV).take 1)) := pSl_tupTo (t.map rowPV) 1 (by omega)
  rw [show ((row + 1 : Nat) : Int) = (row : Int) + 1 from by omega] at s2
  have p4 := pAdd_tup (t.map rowPV) ((t.map rowPV).take 1) (by simp [h.1])
  have p7 : pAdd (.int row) (.int 1) = some (.int ((row : Int) + 1)) := rfl
  have e1 : lList (.tup (t.map rowPV)) = some (t.map rowPV) := rfl
  have q := lLc_map (i := 20) (gi := iSeq (eVar 13)) (ge := gB) (ρ := ρ) (xs := os) (fun v => .tup ((t.map rowPV).take row ++ [v] ++ (t.map rowPV).drop (row + 1))) (by simp [h13, items]) (sl_le (by omega)) h20
    (fun v _ => by
      have p1 := pAdd_tup ((t.map rowPV).take row) [v] (by simp [h.1]; omega)
      have p2 := pAdd_tup ((t.map rowPV).take row ++ [v]) ((t.map rowPV).drop (row + 1)) (by simp [h.1]; omega)
      have g4 : (ρ.set 20 (.fz v))[4]? = some (.fz (.tup (t.map rowPV))) := by rw [List.getElem?_set_ne (by decide)]; exact h4
      have g16 : (ρ.set 20 (.fz v))[16]? = some (.fz (.int row)) := by rw [List.getElem?_set_ne (by decide)]; exact h16
      have g20 : (ρ.set 20 (.fz v))[20]? = some (.fz v) := List.getElem?_set_self (by omega)
      have z1 : ([v] : List PV).length ≤ sizeLine := sl_le (by simp)
      simp only [c_aCons, c_aNil, c_eOp2, c_eSl, c_oNone, c_oSome, c_eVar', c_eC, c_eTup, g4, g16, g20, Wp.ret_bind, s1, s2, lift_some, p1, p2, p7, if_pos z1])
  have z0 : ([] : List PV).length ≤ sizeLine := sl_le (by simp)
  have z7 : ([.ml (t.map rowPV), .pv (.tup ((t.map rowPV).take 3)), .pv (.tup (t.map rowPV ++ (t.map rowPV).take 1)), .pv .non, .pv (.str (S (txt t))), .md, .pv (.tup [])] : List RV).length ≤ sizeLine := sl_le (by simp)
  simp only [c_rAdd, c_eLst, q, c_rDisp, c_rMl, c_rPv, c_rMd, c_rNil, c_lOp1, c_eOp2, c_eSl, c_oNone, c_oSome, c_eVar', c_eC, c_eTup, c_aNil, h4, h5, Wp.ret_bind, s3, s4, lift_some, lift'_some, p4, e1, if_pos z0, if_pos z7]
  rw [if_pos (sl_le (by simp [ho]))]
  rfl
theorem g2_part {t : List (List (Option Bool))} (h : Tab t) {xs : List PV} (hx : ∀ x ∈ xs, ∃ r ∈ t, x = rowPV r) (hl : xs.length ≠ 4) (hz : xs.length ≤ 1000) : G2 (.tup xs) := by
  refine ⟨?_, by simp [tabB', hl], fun ys e h4 => by cases e; exact absurd h4 hl, sm_seq (by omega) fun x h1 => ?_, (fun _ _ z => nomatch z), (fun _ _ z => nomatch z), ?_⟩
  · simp only [kn2, Bool.and_eq_true, decide_eq_true_eq, List.all_eq_true]
    refine ⟨by omega, fun y hy => ?_⟩
    obtain ⟨r, hr, rfl⟩ := hx y hy
    exact (row_kn (h.2 r hr)).1
  · obtain ⟨r, hr, rfl⟩ := hx x h1
    exact sm_row (n := 9) (h.2 r hr)
  · simp only [PV.er]
    have := erL_map (f := id) (xs := xs) (fun x h1 => by
      obtain ⟨r, hr, rfl⟩ := hx x h1
      exact er_row r)
    rw [show erL xs = xs from by simpa using this]
theorem g2_non : G2 .non := ⟨rfl, rfl, (fun _ z => nomatch z), .non, (fun _ _ z => nomatch z), (fun _ _ z => nomatch z), by simp [PV.er]⟩
theorem g2_text {l : List Nat} (h : l.length ≤ 1000) : G2 (.str (S l)) := ⟨by simp [kn2, S_len]; omega, rfl, (fun _ z => nomatch z), sm_text l (by omega), (fun _ _ z => nomatch z), (fun _ _ z => nomatch z), by simp [PV.er]⟩
/-- each of them, as the body sees it -/
theorem bads_ok {t : List (List (Option Bool))} (h : Tab t) {row : Nat} (hr : row < 4) {os : List PV} (ho : ∀ v ∈ os, G1 v) : ∀ r ∈ bads t row os, (∃ v, r = .pv v ∧ G2 v) ∨ (∃ xs, r = .ml xs ∧ xs.length ≤ 1000) ∨ r = .md := fun r hm => by
  have rows : ∀ x ∈ t.map rowPV, ∃ r ∈ t, x = rowPV r := fun x hx => by
    obtain ⟨r, a, b⟩ := List.mem_map.mp hx
    exact ⟨r, a, b.symm⟩
  unfold bads at hm
  rcases List.mem_append.mp hm with hm | hm
  · obtain ⟨v, hv, rfl⟩ := List.mem_map.mp hm
    obtain ⟨o, ho', rfl⟩ := List.mem_map.mp hv
    exact .inl ⟨_, rfl, bad_row h hr (ho o ho')⟩
  · simp only [List.mem_cons, List.not_mem_nil, or_false] at hm
    rcases hm with rfl | rfl | rfl | rfl | rfl | rfl | rfl
    · exact .inr (.inl ⟨_, rfl, by simp [h.1]⟩)
    · exact .inl ⟨_, rfl, g2_part h (fun x hx => rows x (List.mem_of_mem_take hx)) (by simp [h.1]) (by simp [h.1])⟩
    · exact .inl ⟨_, rfl, g2_part h (fun x hx => by
        rcases List.mem_append.mp hx with hx | hx
        · exact rows x hx
        · exact rows x (List.mem_of_mem_take hx)) (by simp [h.1]) (by simp [h.1])⟩
    · exact .inl ⟨_, rfl, g2_non⟩
    · exact .inl ⟨_, rfl, g2_text (by rw [txt_len h]; decide)⟩
    · exact .inr (.inr rfl)
    · exact .inl ⟨_, rfl, g2_part h (fun x hx => nomatch hx) (by decide) (by decide)⟩
end k54

set_option Elab.async false
set_option linter.all false
set_option maxRecDepth 100000
set_option maxHeartbeats 1000000
namespace k54
open PySem PySem.Spec PyProof.Rows L2 VL
abbrev st0 : GS := sBox 2 (lCall m__law_box (aCons (eCall m__law_cell (aCons (eVar 0) (aCons (eVar 1) (aNil)))) (aNil)))
abbrev st1 : GS := sSet 3 (eOp2 pEq (eCallB mTake 2 (aCons (eC (.int 2)) (aNil))) (eC (.int 0)))
abbrev st2 : GS := sSet 4 (eOp1 pTuple (eLst (lLc [19] (iRng (eC (.int 4))) (gN 19) (gYes) (eOp1 pTuple (eLst (lLc [12] (iRng (eC (.int 4))) (gN 12) (gYes) (eOp2 pIx (eLst (lDisp (aCons (eC (.bl true)) (aCons (eC (.bl false)) (aCons (eC .non) (aNil)))))) (eCallB mTake 2 (aCons (eC (.int 3)) (aNil))))))))))
abbrev st3 : GS := sSet 5 (eCall m__law_text (aCons (eVar 4) (aNil)))
abbrev st4 : GS := sFor (gN 6) (iRng (eC (.int 2))) (sSeq (sIf (gOr (gNot (gVal (eCall r__law_same (aCons (eCall m__law_asked (aCons (eC (.int 0)) (aCons (eVar 4) (aCons (eVar 3) (aNil))))) (aCons (eLst (lDisp (aCons (eC (.str "told")) (aCons (eVar 5) (aNil))))) (aNil)))))) (gNot (gVal (eCall r__law_same (aCons (eCall m__law_asked (aCons (eC (.int 1)) (aCons (eVar 5) (aCons (eNot (eVar 3)) (aNil))))) (aCons (eLst (lDisp (aCons (eC (.str "told")) (aCons (eVar 4) (aNil))))) (aNil))))))) (sRet (eC (.bl false))) (sNil)) (sSet 3 (eNot (eVar 3))))
abbrev st5 : GS := sTgt (gT [15, 16]) (eTup (aCons (eCallB mTake 2 (aCons (eC (.int 20)) (aNil))) (aCons (eCallB mTake 2 (aCons (eC (.int 4)) (aNil))) (aNil))))
abbrev st6 : GS := sSet 7 (eOp2 pIx (eC (.str "+-? \n0x")) (eCallB mTake 2 (aCons (eC (.int 7)) (aNil))))
abbrev st7 : GS := sSet 8 (eLst (lDisp (aCons (eOp2 pAdd (eOp2 pAdd (eSl pSl (eVar 5) (oNone) (oSome (eVar 15))) (eVar 7)) (eSl pSl (eVar 5) (oSome (eOp2 pAdd (eVar 15) (eC (.int 1)))) (oNone))) (aCons (eOp2 pAdd (eSl pSl (eVar 5) (oNone) (oSome (eVar 15))) (eSl pSl (eVar 5) (oSome (eOp2 pAdd (eVar 15) (eC (.int 1)))) (oNone))) (aCons (eOp2 pAdd (eOp2 pAdd (eSl pSl (eVar 5) (oNone) (oSome (eVar 15))) (eVar 7)) (eSl pSl (eVar 5) (oSome (eVar 15)) (oNone))) (aCons (eSl pSl (eVar 5) (oNone) (oSome (eOp1 pNeg (eC (.int 1))))) (aCons (eOp2 pAdd (eVar 5) (eC (.str "\n"))) (aCons (eSl pSl (eVar 5) (oNone) (oSome (eC (.int 15)))) (aCons (eOp2 pAdd (eVar 5) (eSl pSl (eVar 5) (oNone) (oSome (eC (.int 5))))) (aNil))))))))))
abbrev st8 : GS := sForR 9 [9, 18, 17] (rAdd (eVar 8) (rSl (rDisp (rPv (eC .non) (rPv (eVar 4) (rPv (eC (.str "")) (rPv (eC (.int 7)) (rMl (lDisp (aCons (eVar 5) (aNil))) (rNil))))))) (oSome (eCallB mTake 2 (aCons (eC (.int 5)) (aNil)))))) (sSeq (sPar 18 17 (eCall m__law_read (aCons (eVar 9) (aNil))) (eCall m__law_asked (aCons (eC (.int 1)) (aCons (eVar 9) (aCons (eVar 3) (aNil)))))) (sIfH (hOr (gAnd (gBl (eOp2 pIsNot (eVar 18) (eC .non))) (gNot (gVal (eCall r__law_same (aCons (eVar 17) (aCons (eLst (lDisp (aCons (eC (.str "told")) (aCons (eVar 18) (aNil))))) (aNil))))))) (hAnd (gBl (eOp2 pIs (eVar 18) (eC .non))) (hOr (gBl (eOp2 pNe (eOp2 pIx (eVar 17) (eC (.int 0))) (eC (.str "text")))) (hNot (hVery r__law_same (eOp2 pIx (eVar 17) (eC (.int 1))) (eVar 9)))))) (sRet (eC (.bl false)))))
abbrev st9 : GS := sSet 10 (eOp2 pIx (eVar 4) (eVar 16))
abbrev st10 : GS := sSet 11 (eOp2 pIx (eLst (lDisp (aCons (eC (.int 1)) (aCons (eC (.int 0)) (aCons (eC (.str "+")) (aCons (eLst (lDisp (aCons (eC (.bl true)) (aNil)))) (aCons (eOp1 pNeg (eC (.int 1))) (aNil)))))))) (eCallB mTake 2 (aCons (eC (.int 5)) (aNil))))
abbrev st11 : GS := sSet 12 (eCallB mTake 2 (aCons (eC (.int 4)) (aNil)))
abbrev st12 : GS := sSet 13 (eLst (lDisp (aCons (eOp2 pAdd (eOp2 pAdd (eSl pSl (eVar 10) (oNone) (oSome (eVar 12))) (eTup (aCons (eVar 11) (aNil)))) (eSl pSl (eVar 10) (oSome (eOp2 pAdd (eVar 12) (eC (.int 1)))) (oNone))) (aCons (eSl pSl (eVar 10) (oSome (eC (.int 1))) (oNone)) (aCons (eOp2 pAdd (eVar 10) (eTup (aCons (eC .non) (aNil)))) (aCons (eLst (lOp1 lList (eVar 10))) (aCons (eC .non) (aCons (eC (.str "+-+-")) (aNil)))))))))
abbrev st13 : GS := sSetR 14 (rAdd (eLst (lLc [20] (iSeq (eVar 13)) (gN 20) (gYes) (eOp2 pAdd (eOp2 pAdd (eSl pSl (eVar 4) (oNone) (oSome (eVar 16))) (eTup (aCons (eVar 20) (aNil)))) (eSl pSl (eVar 4) (oSome (eOp2 pAdd (eVar 16) (eC (.int 1)))) (oNone))))) (rDisp (rMl (lOp1 lList (eVar 4)) (rPv (eSl pSl (eVar 4) (oNone) (oSome (eC (.int 3)))) (rPv (eOp2 pAdd (eVar 4) (eSl pSl (eVar 4) (oNone) (oSome (eC (.int 1))))) (rPv (eC .non) (rPv (eVar 5) (rMd (rPv (eTup (aNil)) (rNil)))))))))) (sForS 9 [9, 17] (oSome (eCallB mTake 2 (aCons (eC (.int 7)) (aNil)))) (sSeq (sSet 17 (eCall m__law_asked (aCons (eC (.int 0)) (aCons (eVar 9) (aCons (eVar 3) (aNil)))))) (sIfH (hOr (gVal (eCall m__law_is_table (aCons (eVar 9) (aNil)))) (hOr (gBl (eOp2 pNe (eOp2 pIx (eVar 17) (eC (.int 0))) (eC (.str "table")))) (hNot (hVery r__law_same (eOp2 pIx (eVar 17) (eC (.int 1))) (eVar 9))))) (sRet (eC (.bl false))))))
abbrev re13 : GS := st13
abbrev re12 : GS := sSeq st12 re13
abbrev re11 : GS := sSeq st11 re12
abbrev re10 : GS := sSeq st10 re11
abbrev re9 : GS := sSeq st9 re10
abbrev re8 : GS := sSeq st8 re9
abbrev re7 : GS := sSeq st7 re8
abbrev re6 : GS := sSeq st6 re7
abbrev re5 : GS := sSeq st5 re6
abbrev re4 : GS := sSeq st4 re5
abbrev re3 : GS := sSeq st3 re4
abbrev re2 : GS := sSeq st2 re3
abbrev re1 : GS := sSeq st1 re2
abbrev re0 : GS := sSeq st0 re1
abbrev rngG : GI := iRng (eOp2 pMax2 (eC (.int 2)) (eOp2 pMin2 (eC (.int 6)) (eOp1 pLen (eVar 0))))
theorem law_eq : b_law = sSeq (sFor (gN 1) (rngG) re0) (sRet (eC (.bl true))) := rfl
end k54

set_option Elab.async false
set_option linter.all false
set_option maxRecDepth 100000
set_option maxHeartbeats 2000000
namespace k54
open PySem PySem.Spec PyProof.Rows L2 VL
theorem erL_len : ∀ xs : List PV, (erL xs).length = xs.length
  | [] => by simp [erL]
  | x :: xs => by simp [erL, erL_len xs]
structure Inv (ns : List Int) (ρ : Env') : Prop where
  l : ρ.length = 21
  s : ρ[0]? = some (.fz (.scr ns))
  a : ownAt ρ 12 = false
  b : ownAt ρ 19 = false
  c : ownAt ρ 20 = false
theorem bodyE_form (ρ : Env') (nm : Bool) (t : PV) (hl : ρ.length = 21) (h3 : ρ[3]? = some (.fz (.bl nm))) : ∃ b0 b1 b2 b4 b5 b6 b7 b8 b10 b11 b12 b13 b14 b15 b16 b17 b18 b19 b20 : SV, bodyE ρ 9 t = [b0, b1, b2, .fz (.bl nm), b4, b5, b6, b7, b8, .fz t, b10, b11, b12, b13, b14, b15, b16, b17, b18, b19, b20] := by
  match ρ, hl with
  | [c0, c1, c2, c3, c4, c5, c6, c7, c8, c9, c10, c11, c12, c13, c14, c15, c16, c17, c18, c19, c20], _ =>
    have : c3 = .fz (.bl nm) := by simpa using h3
    subst this
    refine ⟨c0.er.hid, c1.er.hid, c2.er.hid, c4.er.hid, c5.er.hid, c6.er.hid, c7.er.hid, c8.er.hid, c10.er.hid, c11.er.hid, c12.er.hid, c13.er.hid, c14.er.hid, c15.er.hid, c16.er.hid, c17.er.hid, c18.er.hid, c19.er.hid, c20.er.hid, ?_⟩
    simp [bodyE, SV.er, SV.hid, PV.er]
theorem re9_run {t : List (List (Option Bool))} (h : Tab t) (nm : Bool) (row n : Nat) (hr : row < 4) (hn : n < 100) {ns : List Int} {K : Out → Prop} {E : XE' → Prop} (hK : ∀ ρ', Inv ns ρ' → K (.nx ρ')) (a1 a6 a7 a8 a9 a10 a11 a12 a13 a14 a15 a17 a18 a19 a20 : SV) (h12 : a12.own = false) (h19 : a19.own = false) (h20 : a20.own = false) :
    (re9 [.fz (.scr ns), a1, .bx n, .fz (.bl nm), .fz (tabPV t), .fz (.str (S (txt t))), a6, a7, a8, a9, a10, a11, a12, a13, a14, a15, .fz (.int row), a17, a18, a19, a20]).run K E := by
  obtain ⟨r, hrt, hrow⟩ : ∃ r, r ∈ t ∧ t[row]? = some r := by
    have hlt : row < t.length := by rw [h.1]; exact hr
    exact ⟨t[row], List.getElem_mem hlt, List.getElem?_eq_getElem hlt⟩
  have r4 := h.2 r hrt
  have ix : pIx (tabPV t) (.int row) = some (rowPV r) := by
    show atI (t.map rowPV) (row : Int) = _
    rw [atI_opt, List.getElem?_map, hrow]
    rfl
  unfold re9 st9
  rw [c_sSeq, c_sSet]
  simp only [c_eOp2, c_eVar', List.getElem?_cons_succ, List.getElem?_cons_zero, Wp.ret_bind, ix, lift_some, List.set_cons_succ, List.set_cons_zero]
  unfold re10 st10
  rw [c_sSeq, c_sSet, c_eOp2]
  have z1 : ([.bl true] : List PV).length ≤ sizeLine := sl_le (by simp)
  have n1 : pNeg (.int 1) = some (.int (-1)) := rfl
  have z5 : ([.int 1, .int 0, .str "+", .lst none [.bl true], .int (-1)] : List PV).length ≤ sizeLine := sl_le (by simp)
  simp only [c_eLst, c_lDisp, c_aCons, c_aNil, c_eC, c_eOp1, Wp.ret_bind, n1, lift_some, if_pos z1, if_pos z5]
  rw [take_step (n := n) rfl (by decide) (by decide) (by omega)]
  simp only [all_bind, Wp.ret_bind, all_run]
  intro d5 h5'
  have od : ∃ odd, pIx (.lst none [.int 1, .int 0, .str "+", .lst none [.bl true], .int (-1)]) (.int d5) = some odd ∧ G0 odd := by
    have : d5 = 0 ∨ d5 = 1 ∨ d5 = 2 ∨ d5 = 3 ∨ d5 = 4 := by omega
    rcases this with rfl | rfl | rfl | rfl | rfl
    · exact ⟨_, rfl, g0_int 1⟩
    · exact ⟨_, rfl, g0_int 0⟩
    · exact ⟨_, rfl, g0_p⟩
    · exact ⟨_, rfl, g0_l⟩
    · exact ⟨_, rfl, g0_int (-1)⟩
  obtain ⟨odd, ho, g0⟩ := od
  simp only [ho, lift_some, Wp.ret_bind, List.set_cons_succ, List.set_cons_zero]
  unfold re11 st11
  rw [c_sSeq, c_sSet, take_step (n := n + 1) rfl (by decide) (by decide) (by omega)]
  simp only [all_bind, Wp.ret_bind, all_run, List.set_cons_succ, List.set_cons_zero]
  intro d4 h4'
  obtain ⟨late, hlate⟩ : ∃ late : Nat, d4 = (late : Int) := ⟨d4.toNat, by omega⟩
  subst hlate
  unfold re12 st12
  have v := fun ρ => rows_run r r4 late (by omega) odd ρ
  unfold rowsG at v
  rw [c_sSeq, c_sSet, c_eLst, v _ rfl rfl rfl]
  simp only [Wp.ret_bind, List.set_cons_succ, List.set_cons_zero]
  unfold re13 st13
  unfold sSetR
  have w := fun ρ a b d e f g => bad_run h row hr (ones r late odd) rfl ρ a b d e f g
  unfold badG at w
  rw [w [.fz (.scr ns), a1, .bx (n + 1 + 1), .fz (.bl nm), .fz (tabPV t), .fz (.str (S (txt t))), a6, a7, a8, a9, .fz (rowPV r), .fz odd, .fz (.int late), .fz (.lst none (ones r late odd)), a14, a15, .fz (.int row), a17, a18, a19, a20] rfl rfl rfl rfl rfl h20]
  simp only [Wp.ret_bind]
  have z14 : ∀ xs : Env', xs.length = 21 → 14 < xs.length := fun xs hx => by omega
  rw [if_pos (z14 _ rfl)]
  unfold sForS
  rw [c_oSome, take_step (n := n + 2) rfl (by decide) (by decide) (by omega)]
  simp only [all_bind, Wp.ret_bind, all_run, List.set_cons_succ, List.set_cons_zero]
  intro d7 h7'
  refine forR_run _ (fun x hm t' ht => ?_) ?_
  · have hm' := bads_ok h hr (ones_g1 r4 (show late < 4 by omega) g0) x (mem_cut hm)
    obtain ⟨b0, b1, b2, b4, b5, b6, b7, b8, b10, b11, b12, b13, b14, b15, b16, b17, b18, b19, b20, be⟩ := bodyE_form (wipeE [.fz (.scr ns), a1, .bx (n + 2 + 1), .fz (.bl nm), .fz (tabPV t), .fz (.str (S (txt t))), a6, a7, a8, a9, .fz (rowPV r), .fz odd, .fz (.int late), .fz (.lst none (ones r late odd)), .fz .any, a15, .fz (.int row), a17, a18, a19, a20] [9, 17]) nm t' rfl rfl
    rcases hm' with ⟨v, rfl, g⟩ | ⟨xs, rfl, hx⟩ | rfl
    · have e : t' = v := by rw [show t' = v.er from ht, g.e]
      subst e
      exact .inl (be ▸ it2_bad t' g.k g.b g.r g.s g.l g.d nm _ _ _ _ _ _ _ _ _ _ _ _ _ _ _ _ _ _ _)
    · obtain ⟨q, e⟩ := ht
      subst e
      have el : (erL xs).length < 1000000 := by
        have := erL_len xs
        omega
      exact .inr (be ▸ it2_lst q _ el nm _ _ _ _ _ _ _ _ _ _ _ _ _ _ _ _ _ _ _)
    · obtain ⟨q, e⟩ := ht
      subst e
      exact .inr (be ▸ it2_dic q nm _ _ _ _ _ _ _ _ _ _ _ _ _ _ _ _ _ _ _)
  · exact hK _ ⟨rfl, rfl, rfl, h19, h20⟩
theorem vals_ok {t : List (List (Option Bool))} (h : Tab t) (k c : Nat) (hc : c < 128) : ∀ p ∈ vals (txt t) k c, p.length ≤ 1000 ∧ ∀ x ∈ p, x < 128 := fun p hp => by
  have l := txt_len h
  have sm := txt_small t
  have tk : ∀ n, ∀ x ∈ (txt t).take n, x < 128 := fun n x hx => sm x (List.mem_of_mem_take hx)
  have dr : ∀ n, ∀ x ∈ (txt t).drop n, x < 128 := fun n x hx => sm x (List.mem_of_mem_drop hx)
  have ap : ∀ a b : List Nat, (∀ x ∈ a, x < 128) → (∀ x ∈ b, x < 128) → ∀ x ∈ a ++ b, x < 128 := fun a b h1 h2 x hx => (List.mem_append.mp hx).elim (h1 x) (h2 x)
  have c1 : ∀ x ∈ [c], x < 128 := fun x hx => by simp at hx; omega
  have c2 : ∀ x ∈ [10], x < 128 := fun x hx => by simp at hx; omega
  simp only [vals, List.mem_cons, List.not_mem_nil, or_false] at hp
  rcases hp with rfl | rfl | rfl | rfl | rfl | rfl | rfl
  · exact ⟨by simp; omega, ap _ _ (ap _ _ (tk k) c1) (dr (k + 1))⟩
  · exact ⟨by simp; omega, ap _ _ (tk k) (dr (k + 1))⟩
  · exact ⟨by simp; omega, ap _ _ (ap _ _ (tk k) c1) (dr k)⟩
  · exact ⟨by simp; omega, tk _⟩
  · exact ⟨by simp; omega, ap _ _ sm c2⟩
  · exact ⟨by simp; omega, tk _⟩
  · exact ⟨by simp; omega, ap _ _ sm (tk 5)⟩
theorem re8_run {t : List (List (Option Bool))} (h : Tab t) (nm : Bool) (row k c n : Nat) (hk : k < 20) (hc : c < 128) (hr : row < 4) (hn : n < 90) {ns : List Int} {K : Out → Prop} {E : XE' → Prop} (hK : ∀ ρ', Inv ns ρ' → K (.nx ρ')) (a1 a6 a9 a10 a11 a12 a13 a14 a17 a18 a19 a20 : SV) (h12 : a12.own = false) (h19 : a19.own = false) (h20 : a20.own = false) :
    (re8 [.fz (.scr ns), a1, .bx n, .fz (.bl nm), .fz (tabPV t), .fz (.str (S (txt t))), a6, .fz (.str (S [c])), .fz (.lst none ((vals (txt t) k c).map fun p => PV.str (S p))), a9, a10, a11, a12, a13, a14, .fz (.int k), .fz (.int row), a17, a18, a19, a20]).run K E := by
  have z1 : ([.str (S (txt t))] : List PV).length ≤ sizeLine := sl_le (by simp)
  have z5 : ([.pv .non, .pv (tabPV t), .pv (.str (PySem.Str.ofString "")), .pv (.int 7), .ml [.str (S (txt t))]] : List RV).length ≤ sizeLine := sl_le (by simp)
  unfold re8 st8
  rw [c_sSeq]
  unfold sForR
  rw [c_rAdd]
  simp only [c_eVar', List.getElem?_cons_succ, List.getElem?_cons_zero, Wp.ret_bind, c_rSl, c_rDisp, c_rPv, c_rMl, c_rNil, c_eC, c_lDisp, c_aCons, c_aNil, if_pos z1, if_pos z5, c_oSome]
  rw [take_step (n := n) rfl (by decide) (by decide) (by omega)]
  simp only [all_bind, Wp.ret_bind, all_run]
  intro d5 h5'
  have cl : ∀ (xs : List RV), xs.length ≤ 5 → (cutP xs (some d5) none).length ≤ 5 := fun xs hx => by
    unfold cutP
    rw [List.length_take, List.length_drop]
    omega
  have zz : ((vals (txt t) k c).map fun p => PV.str (S p)).length + (cutP ([.pv .non, .pv (tabPV t), .pv (.str (PySem.Str.ofString "")), .pv (.int 7), .ml [.str (S (txt t))]] : List RV) (some d5) none).length ≤ sizeLine := by
    have := cl [.pv .non, .pv (tabPV t), .pv (.str (PySem.Str.ofString "")), .pv (.int 7), .ml [.str (S (txt t))]] (by simp)
    refine sl_le ?_
    rw [List.length_map]
    have v7 : (vals (txt t) k c).length = 7 := rfl
    omega
  rw [if_pos zz]
  simp only [Wp.ret_bind, Wp.run_bind, List.set_cons_succ, List.set_cons_zero]
  refine forR_run _ (fun r hm t' ht => ?_) ?_
  · obtain ⟨b0, b1, b2, b4, b5, b6, b7, b8, b10, b11, b12, b13, b14, b15, b16, b17, b18, b19, b20, be⟩ := bodyE_form (wipeE [.fz (.scr ns), a1, .bx (n + 1), .fz (.bl nm), .fz (tabPV t), .fz (.str (S (txt t))), a6, .fz (.str (S [c])), .fz (.lst none ((vals (txt t) k c).map fun p => PV.str (S p))), a9, a10, a11, a12, a13, a14, .fz (.int k), .fz (.int row), a17, a18, a19, a20] [9, 18, 17]) nm t' rfl rfl
    have str : ∀ l : List Nat, l.length ≤ 1000 → (∀ x ∈ l, x < 128) → t' = .str (S l) → ∃ ρ', body1 (bodyE (wipeE [.fz (.scr ns), a1, .bx (n + 1), .fz (.bl nm), .fz (tabPV t), .fz (.str (S (txt t))), a6, .fz (.str (S [c])), .fz (.lst none ((vals (txt t) k c).map fun p => PV.str (S p))), a9, a10, a11, a12, a13, a14, .fz (.int k), .fz (.int row), a17, a18, a19, a20] [9, 18, 17]) 9 t') = .ret (.nx ρ') := fun l h1 h2 e => by
      rw [be, e]
      exact it1_str l (by omega) h2 nm _ _ _ _ _ _ _ _ _ _ _ _ _ _ _ _ _ _ _
    rcases List.mem_append.mp hm with hm | hm
    · obtain ⟨v, hv, rfl⟩ := List.mem_map.mp hm
      obtain ⟨p, hp, rfl⟩ := List.mem_map.mp hv
      obtain ⟨p1, p2⟩ := vals_ok h k c hc p hp
      exact .inl (str p p1 p2 (by rw [show t' = (PV.str (S p)).er from ht]; simp [PV.er]))
    · have hm' := mem_cut hm
      simp only [List.mem_cons, List.not_mem_nil, or_false] at hm'
      rcases hm' with rfl | rfl | rfl | rfl | rfl
      · have e : t' = .non := by rw [show t' = PV.non.er from ht]; simp [PV.er]
        rw [be, e]
        exact .inl (it1_bad .non rfl (fun _ z => nomatch z) .non (fun _ _ z => nomatch z) (fun _ _ z => nomatch z) nm _ _ _ _ _ _ _ _ _ _ _ _ _ _ _ _ _ _ _)
      · have e : t' = tabPV t := by rw [show t' = (tabPV t).er from ht]; exact er_tab t
        rw [be, e]
        exact .inl (it1_bad (tabPV t) rfl (fun _ z => nomatch z) (sm_tab (n := 9) h) (fun _ _ z => nomatch z) (fun _ _ z => nomatch z) nm _ _ _ _ _ _ _ _ _ _ _ _ _ _ _ _ _ _ _)
      · exact .inl (str [] (by decide) (by decide) (by rw [show t' = (PV.str (PySem.Str.ofString "")).er from ht, S_nil]; simp [PV.er]))
      · have e : t' = .int 7 := by rw [show t' = (PV.int 7).er from ht]; simp [PV.er]
        rw [be, e]
        exact .inl (it1_bad (.int 7) rfl (fun _ z => nomatch z) (.int 7) (fun _ _ z => nomatch z) (fun _ _ z => nomatch z) nm _ _ _ _ _ _ _ _ _ _ _ _ _ _ _ _ _ _ _)
      · obtain ⟨q, e⟩ := ht
        rw [be, e]
        exact .inr (it1_lst q _ (by simp [erL]) nm _ _ _ _ _ _ _ _ _ _ _ _ _ _ _ _ _ _ _)
  · exact re9_run h nm row (n + 1) hr (by omega) hK a1 a6 _ _ .un a10 a11 a12 a13 a14 _ .un .un a19 a20 h12 h19 h20
theorem body_run (k : Nat) (hk : k < 1000) {ns : List Int} {K : Out → Prop} {E : XE' → Prop} (hK : ∀ ρ', Inv ns ρ' → K (.nx ρ')) (a2 a3 a4 a5 a6 a7 a8 a9 a10 a11 a12 a13 a14 a15 a16 a17 a18 a19 a20 : SV) (h12 : a12.own = false) (h19 : a19.own = false) (h20 : a20.own = false) :
    (re0 [.fz (.scr ns), .fz (.int k), a2, a3, a4, a5, a6, a7, a8, a9, a10, a11, a12, a13, a14, a15, a16, a17, a18, a19, a20]).run K E := by
  unfold re0 st0
  rw [c_sSeq, box_step rfl rfl hk]
  simp only [Wp.ret_bind, List.set_cons_succ, List.set_cons_zero]
  unfold re1 st1
  rw [c_sSeq, c_sSet, c_eOp2, take_step (n := 0) rfl (by decide) (by decide) (by decide)]
  simp only [all_bind, Wp.ret_bind, c_eC, pEq_int, lift_some, all_run, List.set_cons_succ, List.set_cons_zero]
  intro d hd
  unfold re2 st2
  rw [c_sSeq, c_sSet]
  simp only [Wp.run_bind]
  refine table_run (n := 1) ?_ rfl ?_ ?_ (by decide) fun t ht => ?_
  · exact Nat.lt_of_lt_of_le (by decide : 19 < 21) (Nat.le_refl 21)
  · exact h12
  · exact h19
  simp only [Wp.run_ret, List.set_cons_succ, List.set_cons_zero]
  unfold re3 st3
  rw [c_sSeq, c_sSet]
  simp only [c_eCall, c_aCons, c_aNil, c_eVar', List.getElem?_cons_succ, List.getElem?_cons_zero, Wp.ret_bind, fzs, List.map_cons, List.map_nil, text_ok ht, Wp.mapE_ret, List.set_cons_succ, List.set_cons_zero]
  unfold re4 st4
  rw [c_sSeq, c_sFor]
  have rng : iRange (.int 2) = some [.int 0, .int 1] := iRange_len (n := 2) (by rw [sizeLine_eq]; decide)
  simp only [c_iRng, c_eC, Wp.ret_bind, rng, lift'_some, turn_run ht]
  unfold re5 st5
  rw [c_sSeq]
  unfold sTgt
  rw [c_eTup, c_aCons, take_step (n := 17) rfl (by decide) (by decide) (by decide)]
  simp only [all_bind, Wp.ret_bind, all_run, Wp.run_bind]
  intro d20 h20'
  rw [c_aCons, take_step (n := 18) rfl (by decide) (by decide) (by decide)]
  simp only [all_bind, Wp.ret_bind, all_run, c_aNil]
  intro d4 h4'
  have z2 : ([PV.int d20, .int d4] : List PV).length ≤ sizeLine := sl_le (by simp)
  simp only [Wp.run_ret]
  rw [if_pos z2]
  simp only [Wp.run_ret, gT, List.length_cons, List.length_nil, eq_self_iff_true, if_true, setAll, List.set_cons_succ, List.set_cons_zero]
  unfold re6 st6
  rw [c_sSeq, c_sSet, c_eOp2, c_eC]
  simp only [Wp.ret_bind]
  rw [take_step (n := 19) rfl (by decide) (by decide) (by decide)]
  simp only [all_bind, Wp.ret_bind, all_run]
  intro d7 h7'
  have sg : ∃ c : Nat, c < 128 ∧ pIx (.str "+-? \n0x") (.int d7) = some (.str (S [c])) := by
    have e : (PySem.Str.ofString "+-? \n0x") = S [43, 45, 63, 32, 10, 48, 120] := by decide +kernel
    rw [e]
    have hz : (S [43, 45, 63, 32, 10, 48, 120]).length ≤ sizeLine := sl_le (by decide)
    have : d7 = 0 ∨ d7 = 1 ∨ d7 = 2 ∨ d7 = 3 ∨ d7 = 4 ∨ d7 = 5 ∨ d7 = 6 := by omega
    have key : ∀ (k : Nat) (c : Nat), [43, 45, 63, 32, 10, 48, 120][k]? = some c → pIx (.str (S [43, 45, 63, 32, 10, 48, 120])) (.int k) = some (.str (S [c])) := fun k c h => by
      show (if (S [43, 45, 63, 32, 10, 48, 120]).length ≤ sizeLine then (atI [43, 45, 63, 32, 10, 48, 120] (k : Int)).map fun k => PV.str ⟨#[k]⟩ else none) = _
      rw [if_pos hz, atI_opt, h]
      rfl
    rcases this with rfl | rfl | rfl | rfl | rfl | rfl | rfl
    · exact ⟨43, by decide, key 0 43 rfl⟩
    · exact ⟨45, by decide, key 1 45 rfl⟩
    · exact ⟨63, by decide, key 2 63 rfl⟩
    · exact ⟨32, by decide, key 3 32 rfl⟩
    · exact ⟨10, by decide, key 4 10 rfl⟩
    · exact ⟨48, by decide, key 5 48 rfl⟩
    · exact ⟨120, by decide, key 6 120 rfl⟩
  obtain ⟨c, hc, sg⟩ := sg
  simp only [sg, lift_some, Wp.ret_bind, List.set_cons_succ, List.set_cons_zero]
  obtain ⟨at_, hat⟩ : ∃ at_ : Nat, d20 = (at_ : Int) := ⟨d20.toNat, by omega⟩
  obtain ⟨row, hrow⟩ : ∃ row : Nat, d4 = (row : Int) := ⟨d4.toNat, by omega⟩
  subst hat hrow
  unfold re7 st7
  have v := fun ρ => vals_run (txt t) (txt_len ht) at_ c (by omega) ρ
  unfold valG at v
  rw [c_sSeq, c_sSet, c_eLst, v _ rfl rfl rfl]
  simp only [Wp.ret_bind, List.set_cons_succ, List.set_cons_zero]
  exact re8_run ht (decide (d = 0)) row at_ c 20 (by omega) hc (by omega) (by decide) hK _ _ _ _ _ _ _ _ _ _ _ _ h12 h19 h20
end k54

set_option Elab.async false
set_option linter.all false
set_option maxRecDepth 100000
set_option maxHeartbeats 1000000
namespace k54
open PySem PySem.Spec PyProof.Rows L2 VL
theorem loop_run {ns : List Int} {E : XE' → Prop} {K : Out → Prop} (hK : ∀ ρ', Inv ns ρ' → K (.nx ρ')) : ∀ (ks : List Nat) (ρ : Env'), (∀ k ∈ ks, k < 1000) → Inv ns ρ → (forLoop (gN 1) re0 (ks.map fun (k : Nat) => PV.int k) ρ).run K E
  | [], ρ, _, h => hK ρ h
  | k :: ks, ρ, hk, h => by
    obtain ⟨l, s, a, b, c⟩ := h
    match ρ, l with
    | [a0, a1, a2, a3, a4, a5, a6, a7, a8, a9, a10, a11, a12, a13, a14, a15, a16, a17, a18, a19, a20], _ =>
      have e0 : a0 = .fz (.scr ns) := by simpa using s
      subst e0
      rw [List.map_cons]
      unfold forLoop
      simp only [gN, List.set_cons_succ, List.set_cons_zero, Wp.run_bind]
      exact body_run (K := fun o => (match o with
        | .nx ρ2 => forLoop (gN 1) re0 (ks.map fun (k : Nat) => PV.int k) ρ2
        | .ct ρ2 => forLoop (gN 1) re0 (ks.map fun (k : Nat) => PV.int k) ρ2
        | .bk ρ2 => .ret (.nx ρ2)
        | .rt v ρ2 => .ret (.rt v ρ2)
        | .th (some b) ρ2 => .ret (.th (some b) ρ2)
        | .th none _ => .stuck : Wp XE' Out).run K E) k (hk k List.mem_cons_self) (fun ρ' h' => loop_run hK ks ρ' (fun x hx => hk x (List.mem_cons_of_mem _ hx)) h') a2 a3 a4 a5 a6 a7 a8 a9 a10 a11 a12 a13 a14 a15 a16 a17 a18 a19 a20 a b c
theorem law_true (ns : List Int) (hl : ns.length ≤ 63) (K : PV × List SV → Prop) (E : XE' → Prop) (h : K (.bl true, [.un])) : (m_law [.fz (.scr ns)]).run K E := by
  unfold m_law
  rw [fnV_eq rfl, law_eq, c_sSeq, c_sFor]
  obtain ⟨n, hn, e⟩ : ∃ n : Nat, n ≤ 6 ∧ (n : Int) = (if (if (ns.length : Int) < 6 then (ns.length : Int) else 6) > 2 then (if (ns.length : Int) < 6 then (ns.length : Int) else 6) else 2) := by
    refine ⟨if (if ns.length < 6 then ns.length else 6) > 2 then (if ns.length < 6 then ns.length else 6) else 2, ?_, ?_⟩
    · split <;> split <;> omega
    · repeat' split
      all_goals omega
  have rg : rngG ([SV.fz (.scr ns)] ++ List.replicate (21 - [SV.fz (PV.scr ns)].length) .un) = .ret ((List.range n).map fun (k : Nat) => PV.int k, [SV.fz (.scr ns)] ++ List.replicate (21 - [SV.fz (PV.scr ns)].length) .un) := by
    have q := iRange_len (n := n) (by rw [sizeLine_eq]; omega)
    rw [e] at q
    simp [pLen, pMin2, pMax2, q]
  rw [rg]
  simp only [Wp.ret_bind, Wp.mapE_bind, Wp.run_bind]
  show Wp.run (forLoop (gN 1) re0 _ _) _ _
  refine loop_run (fun ρ' h' => ?_) (List.range n) _ (fun k hk => by have := List.mem_range.mp hk; omega) ⟨rfl, rfl, rfl, rfl, rfl⟩
  exact h
end k54

set_option Elab.async false
set_option linter.all false
set_option maxRecDepth 100000
set_option maxHeartbeats 1000000
namespace k54
open PySem PySem.Spec PyProof.Rows L2 VL
theorem very7 : Very7 r__law_same := by
  show Very7 (m__law_same 12)
  rw [same_eq]
  exact very7_ok 11
/-- the law's own contract, no error let out -/
def spLaw (K : PySem.W.Frag) : Sp := fun vs H Q _ => ∃ (a : Addr) (ns : List Int), vs = [.ref a] ∧ ns.length ≤ 63 ∧ Only H ∧ SqL K H a (ns.map V.int) ∧ ∀ H', Q (.bl true) H'
theorem law_sp {K : PySem.W.Frag} {B : Addr → Prop} {vs : List V} {H : Hp} {Q : VK} {E : XK} (h : spLaw K vs H Q E) : SpV (cc K B) 1 m_law vs H Q E := by
  obtain ⟨a, ns, rfl, hl, hO, hS, q⟩ := h
  refine ⟨rfl, H, [.fz (.scr ns)], Reps.er (Same.refl H) (.cons (.scr hS) .nil), law_true ns hl _ _ fun w F' H' st rp => ?_⟩
  cases rp
  exact q H'
theorem noCX {P : Program} {w : World} (H : Hp) (s : Shared) (e : Value) (s' : Shared) (z : L2.CX P w [] H s (fun _ _ _ => False) e s') : False := by
  obtain ⟨_, _, _, _, _, _, _, _, _, _, _, _, z⟩ := z
  exact z
theorem all_mk {P : Program} {w : World} {K : PySem.W.Frag} {h : Heap} {mg : Str → Option Value} {fa_ : Addr} (X : K.In h) (G : h.Ns mainGlobals mg) (hfa : mg "law" = some (.ref fa_)) (c : He.SaysT fa fnD tsD w K) (e : exB K = true) :
    ∃ fd : FuncData, (∀ (s : Shared) (u : Value), BindsTo s fd ⟨[u], []⟩ [("script", u)]) ∧ ∀ base : Heap, K.In base → base.Ns mainGlobals mg → FnOk P w K mg base (L2.CX P w) 15 fa_ fd ["script"] (spLaw K) := by
  have T := txt_of X G c e
  obtain ⟨f, fd, hm, _, Fn⟩ := all_fv (P := P) (base := h) T take_ok very7 (B := fun _ => False)
  have e1 := hfa.symm.trans hm
  cases e1
  obtain ⟨oc, od, kV, doc, pm, an, cdv, ct, osl, e2, lk, hcd⟩ := Fn.ex
  refine ⟨fd, fun s u => by subst e2; exact .of_eq rfl, fun base _ _ => ?_⟩
  obtain ⟨f2, fd2, hm2, ok, Fn2⟩ := all_fv (P := P) (base := base) T take_ok very7 (B := fun _ => False)
  have e3 := hm2.symm.trans hm
  cases e3
  obtain ⟨oc2, od2, kV2, doc2, pm2, an2, cdv2, ct2, osl2, e4, lk2, hcd2⟩ := Fn2.ex
  rw [lk] at lk2
  cases lk2
  exact ok.imp fun vs H Q E h => law_sp h
end k54
open PySem PySem.W PyProof.Rows
set_option maxHeartbeats 0 in
theorem PySem.Challenge.cw_nestedhands_k54_texts_of_rates_holds : PySem.Challenge.rw_nestedhands_k54_texts_of_rates.Holds := by
  w_on; o_law; k_head; (case hw => w_witness2)
  k_fill
  refine L2.walk_of (l := PySem.Challenge.rw_nestedhands_k54_texts_of_rates) (n := 63) (k := 15) (x := "script") (CX := fun w => L2.CX PySem.Challenge.rw_nestedhands_k54_texts_of_rates.prog w) (sp := fun w => k54.spLaw _) rfl (by decide) rfl ⟨rfl, by decide, by decide⟩ (fun w h Y => PySem.W.kIn_of Y) ?F (fun _ _ a ns hl hO hS => ⟨a, ns, rfl, hl, hO, hS, fun _ => rfl⟩) (fun _ => k54.noCX)
  case F =>
    intro w mg fa h KX G hmg
    exact k54.all_mk KX G hmg (show He.obsT k54.fa k54.fnD k54.tsD _ = He.valT k54.fnD k54.tsD w from by kernel_rfl) (by kernel_rfl)

