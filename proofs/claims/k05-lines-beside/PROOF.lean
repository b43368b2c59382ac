import PyProof.Rows.All
import HandS.ForMost
import HandS.ForExc
import HandS.ExcInit
import HandS.ExcField
import HandS.CallSlots
import HandS.TryMany
import HandS.IsInst
import HandS.Style
import HandS.Flow
import HandS.Conv
import HandS.Codes
import HandS.Wide
import HandS.TupAny
import HandS.Deep
import HandS.Iter
import HandS.ExcIs
import HandS.Small
import HandS.HeadHook4
import PyProof.StrLawsIdx
import PyProof.StrLawsNeg
import PyProof.StrLawsTight
import PyProof.StrLawsChain
import HandS.FStr
import HandS.DictComp
import PyProof.P3Eq
import HandS.TryOnly
import PySem.Challenge.RW_nestedhands_k05_lines_beside
import HandS.Ends
set_option Elab.async false
set_option linter.all false
set_option maxRecDepth 100000
/-! VL, part 1: trees as values, programs as predicate transformers, the judgements. -/
namespace VL
open PySem PySem.Spec PyProof.Rows L2

abbrev St := L2.St
/-! ### predicate transformers -/
structure Wp (ε α : Type) where
  run : (α → Prop) → (ε → Prop) → Prop
  mono : ∀ {K K' : α → Prop} {E E' : ε → Prop}, (∀ a, K a → K' a) → (∀ e, E e → E' e) → run K E → run K' E'
namespace Wp
variable {ε ε' α β : Type}
def ret (a : α) : Wp ε α := ⟨fun K _ => K a, fun h _ x => h _ x⟩
def bind (m : Wp ε α) (f : α → Wp ε β) : Wp ε β := ⟨fun K E => m.run (fun a => (f a).run K E) E, fun h e x => m.mono (fun a => (f a).mono h e) e x⟩
def stuck : Wp ε α := ⟨fun _ _ => False, fun _ _ x => x⟩
def raise (e : ε) : Wp ε α := ⟨fun _ E => E e, fun _ h x => h _ x⟩
def mapE (g : ε → ε') (m : Wp ε α) : Wp ε' α := ⟨fun K E => m.run K fun e => E (g e), fun h e x => m.mono h (fun _ => e _) x⟩
def all (p : ι → Prop) (f : ι → Wp ε α) : Wp ε α := ⟨fun K E => ∀ i, p i → (f i).run K E, fun h e x i hi => (f i).mono h e (x i hi)⟩
def ofOpt (o : Option α) : Wp ε α := match o with
  | some a => ret a
  | none => stuck
@[simp] theorem ret_bind (a : α) (f : α → Wp ε β) : (ret a : Wp ε α).bind f = f a := (rfl)
@[simp] theorem stuck_bind (f : α → Wp ε β) : (stuck : Wp ε α).bind f = stuck := (rfl)
@[simp] theorem raise_bind (e : ε) (f : α → Wp ε β) : (raise e : Wp ε α).bind f = raise e := (rfl)
@[simp] theorem bind_bind {γ : Type} (m : Wp ε α) (f : α → Wp ε β) (g : β → Wp ε γ) : (m.bind f).bind g = m.bind fun a => (f a).bind g := (rfl)
@[simp] theorem bind_ret (m : Wp ε α) : m.bind ret = m := (rfl)
@[simp] theorem ofOpt_some (a : α) : (ofOpt (some a) : Wp ε α) = ret a := (rfl)
@[simp] theorem ofOpt_none : (ofOpt none : Wp ε α) = stuck := (rfl)
@[simp] theorem run_ret (a : α) (K : α → Prop) (E : ε → Prop) : (ret a : Wp ε α).run K E = K a := (rfl)
@[simp] theorem run_raise (a : ε) (K : α → Prop) (E : ε → Prop) : (raise a : Wp ε α).run K E = E a := (rfl)
@[simp] theorem run_bind (m : Wp ε α) (f : α → Wp ε β) (K : β → Prop) (E : ε → Prop) : (m.bind f).run K E = m.run (fun a => (f a).run K E) E := (rfl)
@[simp] theorem mapE_ret (g : ε → ε') (a : α) : (ret a : Wp ε α).mapE g = ret a := (rfl)
@[simp] theorem mapE_raise (g : ε → ε') (a : ε) : (raise a : Wp ε α).mapE g = raise (g a) := (rfl)
@[simp] theorem mapE_stuck (g : ε → ε') : (stuck : Wp ε α).mapE g = stuck := (rfl)
@[simp] theorem mapE_bind (g : ε → ε') (m : Wp ε α) (f : α → Wp ε β) : (m.bind f).mapE g = (m.mapE g).bind fun a => (f a).mapE g := (rfl)
theorem ext_run {m m' : Wp ε α} (h : ∀ K E, m.run K E ↔ m'.run K E) : m = m' := by
  obtain ⟨r, p⟩ := m
  obtain ⟨r', p'⟩ := m'
  have e : r = r' := funext fun K => funext fun E => propext (h K E)
  subst e
  rfl
end Wp

/-! ### trees -/
inductive PV where
  | non | bl (b : Bool) | int (i : Int) | str (x : Str)
  | tup (xs : List PV) | lst (g : Option Addr) (xs : List PV)
  | dic (g : Option Addr) (kvs : List (Key × PV))
  | ins (c : Nat) (fs : List (Str × PV))
  | scr (ns : List Int)
  /-- nothing known -/
  | any

/-- what is fixed of a run: the written part, the classes' addresses -/
structure Cn where
  K : PySem.W.Frag
  cA : Nat → Addr
  /-- what was there before: never a tagged node -/
  B : Addr → Prop

mutual
inductive Rep (c : Cn) (F : Hp) : V → PV → Prop
  | non : Rep c F .non .non
  | bl (b : Bool) : Rep c F (.bl b) (.bl b)
  | int (i : Int) : Rep c F (.int i) (.int i)
  | str (x : Str) : Rep c F (.str x) (.str x)
  | tup {a : Addr} {vs : List V} {xs : List PV} (h : F a = some (.tup vs)) (r : Reps c F vs xs) : Rep c F (.ref a) (.tup xs)
  | lst {a : Addr} {vs : List V} {g : Option Addr} {xs : List PV} (h : F a = some (.lst vs)) (r : Reps c F vs xs) (t : ∀ p, g = some p → p = a ∧ ¬ c.B p) : Rep c F (.ref a) (.lst g xs)
  | dic {a : Addr} {vs : List (Key × V)} {g : Option Addr} {xs : List (Key × PV)} (h : F a = some (.dK vs)) (r : RepD c F vs xs) (t : ∀ p, g = some p → p = a ∧ ¬ c.B p) : Rep c F (.ref a) (.dic g xs)
  | ins {a dx : Addr} {vs : List (Str × V)} {k : Nat} {xs : List (Str × PV)} (h : F a = some (.ins (c.cA k) dx vs)) (r : RepF c F vs xs) : Rep c F (.ref a) (.ins k xs)
  | scr {a : Addr} {ns : List Int} (h : SqL c.K F a (ns.map V.int)) : Rep c F (.ref a) (.scr ns)
  | any (v : V) : Rep c F v .any
inductive Reps (c : Cn) (F : Hp) : List V → List PV → Prop
  | nil : Reps c F [] []
  | cons {v : V} {x : PV} {vs : List V} {xs : List PV} (h : Rep c F v x) (r : Reps c F vs xs) : Reps c F (v :: vs) (x :: xs)
inductive RepD (c : Cn) (F : Hp) : List (Key × V) → List (Key × PV) → Prop
  | nil : RepD c F [] []
  | cons {k : Key} {v : V} {x : PV} {vs : List (Key × V)} {xs : List (Key × PV)} (h : Rep c F v x) (r : RepD c F vs xs) : RepD c F ((k, v) :: vs) ((k, x) :: xs)
inductive RepF (c : Cn) (F : Hp) : List (Str × V) → List (Str × PV) → Prop
  | nil : RepF c F [] []
  | cons {k : Str} {v : V} {x : PV} {vs : List (Str × V)} {xs : List (Str × PV)} (h : Rep c F v x) (r : RepF c F vs xs) : RepF c F ((k, v) :: vs) ((k, x) :: xs)
end

mutual
theorem Rep.mono {c : Cn} {F F' : Hp} (e : Same F F') : ∀ {v : V} {x : PV}, Rep c F v x → Rep c F' v x
  | _, _, .non => .non
  | _, _, .bl b => .bl b
  | _, _, .int i => .int i
  | _, _, .str x => .str x
  | _, _, .tup h r => .tup (e _ _ h) (Reps.mono e r)
  | _, _, .lst h r t => .lst (e _ _ h) (Reps.mono e r) t
  | _, _, .dic h r t => .dic (e _ _ h) (RepD.mono e r) t
  | _, _, .ins h r => .ins (e _ _ h) (RepF.mono e r)
  | _, _, .scr h => .scr (e.seq h)
  | _, _, .any v => .any v
theorem Reps.mono {c : Cn} {F F' : Hp} (e : Same F F') : ∀ {vs : List V} {xs : List PV}, Reps c F vs xs → Reps c F' vs xs
  | _, _, .nil => .nil
  | _, _, .cons h r => .cons (Rep.mono e h) (Reps.mono e r)
theorem RepD.mono {c : Cn} {F F' : Hp} (e : Same F F') : ∀ {vs : List (Key × V)} {xs : List (Key × PV)}, RepD c F vs xs → RepD c F' vs xs
  | _, _, .nil => .nil
  | _, _, .cons h r => .cons (Rep.mono e h) (RepD.mono e r)
theorem RepF.mono {c : Cn} {F F' : Hp} (e : Same F F') : ∀ {vs : List (Str × V)} {xs : List (Str × PV)}, RepF c F vs xs → RepF c F' vs xs
  | _, _, .nil => .nil
  | _, _, .cons h r => .cons (Rep.mono e h) (RepF.mono e r)
end

section
variable {c : Cn} {F : Hp}
theorem Reps.length : ∀ {vs : List V} {xs : List PV}, Reps c F vs xs → vs.length = xs.length
  | _, _, .nil => rfl
  | _, _, .cons _ r => congrArg Nat.succ (Reps.length r)
theorem Reps.get : ∀ {vs : List V} {xs : List PV} {i : Nat} {x : PV}, Reps c F vs xs → xs[i]? = some x → ∃ v, vs[i]? = some v ∧ Rep c F v x
  | _, _, i, x, .nil, e => by simp at e
  | _, _, 0, x, .cons h _, e => by simp at e; subst e; exact ⟨_, rfl, h⟩
  | _, _, i + 1, x, .cons _ r, e => by
    obtain ⟨v, h1, h2⟩ := Reps.get (i := i) (x := x) r (by simpa using e)
    exact ⟨v, by simpa using h1, h2⟩
theorem Reps.getV : ∀ {vs : List V} {xs : List PV} {i : Nat} {v : V}, Reps c F vs xs → vs[i]? = some v → ∃ x, xs[i]? = some x ∧ Rep c F v x
  | _, _, i, x, .nil, e => by simp at e
  | _, _, 0, x, .cons h _, e => by simp at e; subst e; exact ⟨_, rfl, h⟩
  | _, _, i + 1, x, .cons _ r, e => by
    obtain ⟨v, h1, h2⟩ := Reps.getV (i := i) (v := x) r (by simpa using e)
    exact ⟨v, by simpa using h1, h2⟩
theorem Reps.append : ∀ {vs ws : List V} {xs ys : List PV}, Reps c F vs xs → Reps c F ws ys → Reps c F (vs ++ ws) (xs ++ ys)
  | _, _, _, _, .nil, s => s
  | _, _, _, _, .cons h r, s => .cons h (Reps.append r s)
theorem Reps.take : ∀ {vs : List V} {xs : List PV} (n : Nat), Reps c F vs xs → Reps c F (vs.take n) (xs.take n)
  | _, _, 0, _ => .nil
  | _, _, _ + 1, .nil => .nil
  | _, _, n + 1, .cons h r => .cons h (Reps.take n r)
theorem Reps.drop : ∀ {vs : List V} {xs : List PV} (n : Nat), Reps c F vs xs → Reps c F (vs.drop n) (xs.drop n)
  | _, _, 0, r => r
  | _, _, _ + 1, .nil => .nil
  | _, _, n + 1, .cons _ r => Reps.drop n r
theorem Reps.set {v : V} {x : PV} (h : Rep c F v x) : ∀ {vs : List V} {xs : List PV} (i : Nat), Reps c F vs xs → Reps c F (vs.set i v) (xs.set i x)
  | _, _, _, .nil => .nil
  | _, _, 0, .cons _ r => .cons h r
  | _, _, i + 1, .cons q r => .cons q (Reps.set h i r)
theorem Reps.ofInts : ∀ ns : List Int, Reps c F (ns.map V.int) (ns.map PV.int)
  | [] => .nil
  | n :: ns => .cons (.int n) (Reps.ofInts ns)
theorem Reps.isEmpty {vs : List V} {xs : List PV} (r : Reps c F vs xs) : vs.isEmpty = xs.isEmpty := by cases r <;> rfl
theorem RepF.lookup {k : Str} {x : PV} : ∀ {vs : List (Str × V)} {xs : List (Str × PV)}, RepF c F vs xs → xs.lookup k = some x → ∃ v, vs.lookup k = some v ∧ Rep c F v x
  | _, _, .nil, e => by simp at e
  | _, _, .cons (k := k') h r, e => by
    rw [List.lookup_cons] at e ⊢
    cases hk : k == k' with
    | true => rw [hk] at e; exact ⟨_, rfl, by cases e; exact h⟩
    | false => rw [hk] at e; exact RepF.lookup r e
theorem RepF.lookupN {k : Str} : ∀ {vs : List (Str × V)} {xs : List (Str × PV)}, RepF c F vs xs → xs.lookup k = none → vs.lookup k = none
  | _, _, .nil, e => by simp
  | _, _, .cons (k := k') h r, e => by
    rw [List.lookup_cons] at e ⊢
    cases hk : k == k' with
    | true => rw [hk] at e; cases e
    | false => rw [hk] at e; exact RepF.lookupN r e
theorem RepD.length : ∀ {vs : List (Key × V)} {xs : List (Key × PV)}, RepD c F vs xs → vs.length = xs.length
  | _, _, .nil => rfl
  | _, _, .cons _ r => congrArg Nat.succ (RepD.length r)
end

/-! ### slots -/
inductive SV where
  | un | fz (v : PV) | ow (xs : List PV) | bx (n : Nat)
abbrev Env' := List SV
def SV.own : SV → Bool
  | .ow _ => true
  | .bx _ => true
  | _ => false
/-- the law's box of digits: its count is at most n -/
def BoxOk (n : Nat) (vs : List V) : Prop := ∃ (a : Int) (b : Bool) (d m : Int), vs = [.int a, .bl b, .int d, .int m] ∧ 0 ≤ a ∧ 0 ≤ d ∧ d < 2147483629 ∧ 0 ≤ m ∧ m ≤ n
theorem BoxOk.le {n m : Nat} {vs : List V} (h : BoxOk n vs) (e : n ≤ m) : BoxOk m vs := by
  obtain ⟨a, b, d, k, e1, h1, h2, h3, h4, h5⟩ := h
  exact ⟨a, b, d, k, e1, h1, h2, h3, h4, by omega⟩
def SlotR (c : Cn) (F H : Hp) (o : Option V) (s : SV) : Prop := match s with
  | .un => True
  | .fz v => ∃ w, o = some w ∧ Rep c F w v
  | .ow xs => ∃ p vs, o = some (.ref p) ∧ F p = none ∧ H p = some (.lst vs) ∧ Reps c F vs xs
  | .bx n => ∃ p vs, o = some (.ref p) ∧ F p = none ∧ H p = some (.lst vs) ∧ BoxOk n vs
def Own (σ : St) (ρ : Env') (p : Addr) : Prop := ∃ (i : Nat) (s : SV), σ[i]? = some (some (.ref p)) ∧ ρ[i]? = some s ∧ s.own = true
structure ER (c : Cn) (F H : Hp) (σ : St) (ρ : Env') : Prop where
  sub : Same F H
  len : σ.length = ρ.length
  slot : ∀ (i : Nat) (o : Option V) (s : SV), σ[i]? = some o → ρ[i]? = some s → SlotR c F H o s
  dis : ∀ (i j : Nat) (s t : SV) (p : Addr), σ[i]? = some (some (.ref p)) → σ[j]? = some (some (.ref p)) → ρ[i]? = some s → ρ[j]? = some t → s.own = true → t.own = true → i = j
  mrk : ∀ p, c.B p → ∃ o, H p = some o

/-- the frozen part grows, what is not owned stays -/
structure Stp (F H : Hp) (S : Addr → Prop) (F' H' : Hp) (S' : Addr → Prop) : Prop where
  ff : Same F F'
  hh : ∀ p o, H p = some o → ¬ S p → H' p = some o ∧ (F p = none → F' p = none)
  th : ∀ p o, H p = some o → ∃ o', H' p = some o'
  ow : ∀ p, S' p → S p ∨ H p = none
theorem Stp.refl (F H : Hp) (S : Addr → Prop) : Stp F H S F H S := ⟨Same.refl F, fun _ _ h _ => ⟨h, fun z => z⟩, fun _ o h => ⟨o, h⟩, fun _ h => .inl h⟩
theorem Stp.trans {F H F1 H1 F2 H2 : Hp} {S S1 S2 : Addr → Prop} (a : Stp F H S F1 H1 S1) (b : Stp F1 H1 S1 F2 H2 S2) : Stp F H S F2 H2 S2 where
  ff := a.ff.trans b.ff
  hh := fun p o h n => by
    obtain ⟨h1, f1⟩ := a.hh p o h n
    have n1 : ¬ S1 p := fun z => (a.ow p z).elim n fun q => by rw [h] at q; cases q
    obtain ⟨h2, f2⟩ := b.hh p o h1 n1
    exact ⟨h2, fun z => f2 (f1 z)⟩
  th := fun p o h => by
    obtain ⟨o1, h1⟩ := a.th p o h
    exact b.th p o1 h1
  ow := fun p h => by
    rcases b.ow p h with h | h
    · exact a.ow p h
    · refine .inr ?_
      cases q : H p with
      | none => rfl
      | some o =>
        obtain ⟨o1, h1⟩ := a.th p o q
        rw [h1] at h
        cases h
/-- both grow, nothing changes -/
structure Grow (F H F' H' : Hp) : Prop where
  ff : Same F F'
  hh : Same H H'
  sub : Same F' H'
  nf : ∀ p o, H p = some o → F p = none → F' p = none
theorem Grow.refl {F H : Hp} (s : Same F H) : Grow F H F H := ⟨Same.refl F, Same.refl H, s, fun _ _ _ z => z⟩
theorem Grow.trans {F H F1 H1 F2 H2 : Hp} (a : Grow F H F1 H1) (b : Grow F1 H1 F2 H2) : Grow F H F2 H2 :=
  ⟨a.ff.trans b.ff, a.hh.trans b.hh, b.sub, fun p o h z => b.nf p o (a.hh p o h) (a.nf p o h z)⟩
theorem Grow.stp {F H F' H' : Hp} (g : Grow F H F' H') (S : Addr → Prop) : Stp F H S F' H' S :=
  ⟨g.ff, fun p o h _ => ⟨g.hh p o h, g.nf p o h⟩, fun p o h => ⟨o, g.hh p o h⟩, fun _ h => .inl h⟩
theorem upd_grow {F H : Hp} {p : Addr} {o : HO} (s : Same F H) (n : H p = none) : Grow F H (upd F p o) (upd H p o) where
  ff := fun b u h => by
    have hb : b ≠ p := fun z => by rw [z] at h; rw [s _ _ h] at n; cases n
    rw [upd_ne hb]; exact h
  hh := fun b u h => by rw [upd_ne (ne_of_none h n)]; exact h
  sub := fun b u h => by
    by_cases hb : b = p
    · subst hb; rw [upd_same] at h ⊢; exact h
    · rw [upd_ne hb] at h ⊢; exact s _ _ h
  nf := fun b u h z => by rw [upd_ne (ne_of_none h n)]; exact z
/-- only the heap grows -/
theorem upd_growH {F H : Hp} {p : Addr} {o : HO} (s : Same F H) (n : H p = none) : Grow F H F (upd H p o) where
  ff := Same.refl F
  hh := fun b u h => by rw [upd_ne (ne_of_none h n)]; exact h
  sub := fun b u h => by rw [upd_ne (ne_of_none (s _ _ h) n)]; exact s _ _ h
  nf := fun _ _ _ z => z
section
variable {c : Cn} {F H F' H' : Hp} {σ : St} {ρ : Env'}
theorem SlotR.grow {o : Option V} {s : SV} (g : Grow F H F' H') (h : SlotR c F H o s) : SlotR c F' H' o s := by
  cases s with
  | un => trivial
  | fz v => obtain ⟨w, e, r⟩ := h; exact ⟨w, e, r.mono g.ff⟩
  | ow xs => obtain ⟨p, vs, e, f, h, r⟩ := h; exact ⟨p, vs, e, g.nf _ _ h f, g.hh _ _ h, r.mono g.ff⟩
  | bx n => obtain ⟨p, vs, e, f, h, r⟩ := h; exact ⟨p, vs, e, g.nf _ _ h f, g.hh _ _ h, r⟩
theorem ER.grow (e : ER c F H σ ρ) (g : Grow F H F' H') : ER c F' H' σ ρ :=
  ⟨g.sub, e.len, fun i o s h1 h2 => (e.slot i o s h1 h2).grow g, e.dis, fun p b => (e.mrk p b).imp fun o h => g.hh p o h⟩
theorem ER.fz (e : ER c F H σ ρ) {i : Nat} {v : PV} (h : ρ[i]? = some (.fz v)) : ∃ w, σ[i]? = some (some w) ∧ Rep c F w v := by
  have hi : i < σ.length := by rw [e.len]; exact (List.getElem?_eq_some_iff.mp h).1
  obtain ⟨w, q, r⟩ := e.slot i σ[i] _ (List.getElem?_eq_getElem hi) h
  exact ⟨w, by rw [List.getElem?_eq_getElem hi, q], r⟩
theorem ER.ow (e : ER c F H σ ρ) {i : Nat} {xs : List PV} (h : ρ[i]? = some (.ow xs)) : ∃ p vs, σ[i]? = some (some (.ref p)) ∧ F p = none ∧ H p = some (.lst vs) ∧ Reps c F vs xs := by
  have hi : i < σ.length := by rw [e.len]; exact (List.getElem?_eq_some_iff.mp h).1
  obtain ⟨p, vs, q, r⟩ := e.slot i σ[i] _ (List.getElem?_eq_getElem hi) h
  exact ⟨p, vs, by rw [List.getElem?_eq_getElem hi, q], r⟩
theorem ER.bx (e : ER c F H σ ρ) {i : Nat} {n : Nat} (h : ρ[i]? = some (.bx n)) : ∃ p vs, σ[i]? = some (some (.ref p)) ∧ F p = none ∧ H p = some (.lst vs) ∧ BoxOk n vs := by
  have hi : i < σ.length := by rw [e.len]; exact (List.getElem?_eq_some_iff.mp h).1
  obtain ⟨p, vs, q, r⟩ := e.slot i σ[i] _ (List.getElem?_eq_getElem hi) h
  exact ⟨p, vs, by rw [List.getElem?_eq_getElem hi, q], r⟩
theorem Own.tracked (e : ER c F H σ ρ) {p : Addr} (h : Own σ ρ p) : F p = none ∧ ∃ vs, H p = some (.lst vs) := by
  obtain ⟨i, s, h1, h2, h3⟩ := h
  have q := e.slot i _ s h1 h2
  cases s with
  | un => cases h3
  | fz v => cases h3
  | ow xs => obtain ⟨p', vs, e1, f, h, _⟩ := q; cases e1; exact ⟨f, vs, h⟩
  | bx n => obtain ⟨p', vs, e1, f, h, _⟩ := q; cases e1; exact ⟨f, vs, h⟩
end

/-! ### exceptions -/
structure Ex where
  k : Nat
  fs : List (Str × PV)
def ExD (c : Cn) (F H : Hp) (d : Option Addr) (fs : List (Str × PV)) : Prop := (∃ d' vs, d = some d' ∧ H d' = some (.xd vs) ∧ RepF c F vs fs) ∨ (d = none ∧ fs = [])

/-! ### the readings -/
abbrev XE' := Ex × Env'
/-- an expression as a program over the slots -/
abbrev GE := Env' → Wp XE' (PV × Env')
abbrev GT := Env' → Wp XE' (Bool × Env')
section
variable (c : Cn)
def StpE (σ : St) (ρ : Env') (F H : Hp) (ρ' : Env') (F' H' : Hp) : Prop := Stp F H (Own σ ρ) F' H' (Own σ ρ') ∧ ER c F' H' σ ρ'
def OkE (σ : St) (ρ : Env') (F H : Hp) (Q : VK) : PV × Env' → Prop := fun r => ∀ w F' H', StpE c σ ρ F H r.2 F' H' → Rep c F' w r.1 → Q w H'
def OkT (σ : St) (ρ : Env') (F H : Hp) (Q : Bool → Hp → Prop) : Bool × Env' → Prop := fun r => ∀ F' H', StpE c σ ρ F H r.2 F' H' → Q r.1 H'
def ErE (W : WX) (σ : St) (ρ : Env') (F H : Hp) : XE' → Prop := fun e => ∀ d F' H', StpE c σ ρ F H e.2 F' H' → ExD c F' H' d e.1.fs → W (.ref (c.cA e.1.k)) d σ H'
def tE (W : WX) (g : GE) : TE := fun σ H Q => ∃ ρ F, ER c F H σ ρ ∧ (g ρ).run (OkE c σ ρ F H Q) (ErE c W σ ρ F H)
def tT (W : WX) (g : GT) : TT := fun σ H Q => ∃ ρ F, ER c F H σ ρ ∧ (g ρ).run (OkT c σ ρ F H Q) (ErE c W σ ρ F H)
end

section
variable {c : Cn} {σ : St} {ρ ρ1 ρ2 : Env'} {F H F1 H1 F2 H2 : Hp} {W : WX} {Q : VK}
theorem StpE.refl (e : ER c F H σ ρ) : StpE c σ ρ F H ρ F H := ⟨Stp.refl _ _ _, e⟩
theorem StpE.trans (a : StpE c σ ρ F H ρ1 F1 H1) (b : StpE c σ ρ1 F1 H1 ρ2 F2 H2) : StpE c σ ρ F H ρ2 F2 H2 := ⟨a.1.trans b.1, b.2⟩
theorem Grow.stpE (e : ER c F H σ ρ) (g : Grow F H F1 H1) : StpE c σ ρ F H ρ F1 H1 := ⟨g.stp _, e.grow g⟩
theorem OkE.step {r : PV × Env'} (s : StpE c σ ρ F H ρ1 F1 H1) (h : OkE c σ ρ F H Q r) : OkE c σ ρ1 F1 H1 Q r := fun w F' H' q r => h w F' H' (s.trans q) r
theorem OkT.step {Q : Bool → Hp → Prop} {r : Bool × Env'} (s : StpE c σ ρ F H ρ1 F1 H1) (h : OkT c σ ρ F H Q r) : OkT c σ ρ1 F1 H1 Q r := fun F' H' q => h F' H' (s.trans q)
theorem ErE.step {r : XE'} (s : StpE c σ ρ F H ρ1 F1 H1) (h : ErE c W σ ρ F H r) : ErE c W σ ρ1 F1 H1 r := fun d F' H' q r => h d F' H' (s.trans q) r
theorem run_step {m : Wp XE' (PV × Env')} (s : StpE c σ ρ F H ρ1 F1 H1) (h : m.run (OkE c σ ρ F H Q) (ErE c W σ ρ F H)) : m.run (OkE c σ ρ1 F1 H1 Q) (ErE c W σ ρ1 F1 H1) :=
  m.mono (fun _ => OkE.step s) (fun _ => ErE.step s) h
theorem run_stepT {Q : Bool → Hp → Prop} {m : Wp XE' (Bool × Env')} (s : StpE c σ ρ F H ρ1 F1 H1) (h : m.run (OkT c σ ρ F H Q) (ErE c W σ ρ F H)) : m.run (OkT c σ ρ1 F1 H1 Q) (ErE c W σ ρ1 F1 H1) :=
  m.mono (fun _ => OkT.step s) (fun _ => ErE.step s) h
/-- the first part of a program is an expression's -/
theorem tE_bind {g : GE} {k : PV × Env' → Wp XE' α} {R : VK} {Z : α → Prop} (er : ER c F H σ ρ) (h : ((g ρ).bind k).run Z (ErE c W σ ρ F H))
    (hk : ∀ v ρ1 w F1 H1, StpE c σ ρ F H ρ1 F1 H1 → Rep c F1 w v → (k (v, ρ1)).run Z (ErE c W σ ρ1 F1 H1) → R w H1) : tE c W g σ H R :=
  ⟨ρ, F, er, (g ρ).mono (fun r h1 w F1 H1 st rep => hk r.1 r.2 w F1 H1 st rep ((k r).mono (fun _ z => z) (fun _ => ErE.step st) h1)) (fun _ z => z) h⟩
theorem tT_bind {g : GT} {k : Bool × Env' → Wp XE' α} {R : Bool → Hp → Prop} {Z : α → Prop} (er : ER c F H σ ρ) (h : ((g ρ).bind k).run Z (ErE c W σ ρ F H))
    (hk : ∀ v ρ1 F1 H1, StpE c σ ρ F H ρ1 F1 H1 → (k (v, ρ1)).run Z (ErE c W σ ρ1 F1 H1) → R v H1) : tT c W g σ H R :=
  ⟨ρ, F, er, (g ρ).mono (fun r h1 F1 H1 st => hk r.1 r.2 F1 H1 st ((k r).mono (fun _ z => z) (fun _ => ErE.step st) h1)) (fun _ z => z) h⟩
end

/-! ### weakening -/
section
variable {X : Cx}
theorem imp_PE {e : Expr} {t t' : TE} (h : PE X e t) (f : ∀ σ H Q, t' σ H Q → t σ H Q) : PE X e t' := ⟨fun pins s σ H Q I hw => h.run pins s σ H Q I (f σ H Q hw)⟩
theorem imp_PT {e : Expr} {t t' : TT} (h : PT X e t) (f : ∀ σ H Q, t' σ H Q → t σ H Q) : PT X e t' := ⟨fun pins s σ H Q I hw => h.run pins s σ H Q I (f σ H Q hw)⟩
theorem imp_PW {e : Expr} {t t' : TT} (h : PW X e t) (f : ∀ σ H Q, t' σ H Q → t σ H Q) : PW X e t' := ⟨fun wh pins s σ H Q I hw => h.run wh pins s σ H Q I (f σ H Q hw)⟩
theorem imp_PA {e : List Expr} {t t' : TA} (h : PA X e t) (f : ∀ σ H Q, t' σ H Q → t σ H Q) : PA X e t' := ⟨fun pos pins s σ H Q I hw => h.run pos pins s σ H Q I (f σ H Q hw)⟩
theorem imp_PS {e : Stmt} {t t' : TS} (h : PS X e t) (f : ∀ D σ H, t' D σ H → t D σ H) : PS X e t' := ⟨fun pins s σ H D I hw => h.run pins s σ H D I (f D σ H hw)⟩
theorem imp_PSs {e : List Stmt} {t t' : TS} (h : PSs X e t) (f : ∀ D σ H, t' D σ H → t D σ H) : PSs X e t' := ⟨fun pins s σ H D I hw => h.run pins s σ H D I (f D σ H hw)⟩
end
end VL

set_option Elab.async false
set_option linter.all false
set_option maxRecDepth 100000
set_option maxHeartbeats 1000000
/-! VL, part 2: expressions. -/
namespace VL
open PySem PySem.Spec PyProof.Rows L2

def lift (o : Option PV) (ρ : Env') : Wp XE' (PV × Env') := match o with
  | some v => .ret (v, ρ)
  | none => .stuck
@[simp] theorem lift_some (v : PV) (ρ : Env') : lift (some v) ρ = .ret (v, ρ) := (rfl)
@[simp] theorem lift_none (ρ : Env') : lift none ρ = .stuck := (rfl)
theorem lift_run {o : Option PV} {ρ : Env'} {K : PV × Env' → Prop} {E : XE' → Prop} (h : (lift o ρ).run K E) : ∃ v, o = some v ∧ K (v, ρ) := by
  cases o with
  | none => exact h.elim
  | some v => exact ⟨v, rfl, h⟩

def eVar (i : Nat) : GE := fun ρ => match ρ[i]? with
  | some (.fz v) => .ret (v, ρ)
  | _ => .stuck
def eC (v : PV) : GE := fun ρ => .ret (v, ρ)
def eOp1 (f : PV → Option PV) (g : GE) : GE := fun ρ => (g ρ).bind fun a => lift (f a.1) a.2
def eOp2 (f : PV → PV → Option PV) (g h : GE) : GE := fun ρ => (g ρ).bind fun a => (h a.2).bind fun b => lift (f a.1 b.1) b.2
def eAnd (g h : GE) : GE := fun ρ => (g ρ).bind fun a => match a.1 with
  | .bl true => h a.2
  | .bl false => .ret (.bl false, a.2)
  | _ => .stuck
def eOr (g h : GE) : GE := fun ρ => (g ρ).bind fun a => match a.1 with
  | .bl false => h a.2
  | .bl true => .ret (.bl true, a.2)
  | _ => .stuck
def eNot (g : GE) : GE := fun ρ => (g ρ).bind fun a => match a.1 with
  | .bl b => .ret (.bl (!b), a.2)
  | _ => .stuck
def eIf (t : GT) (g h : GE) : GE := fun ρ => (t ρ).bind fun a => if a.1 = true then g a.2 else h a.2
/-- a value's truth -/
def truth : PV → Option Bool
  | .non => some false
  | .bl b => some b
  | .int i => some (i != 0)
  | .str x => if x.length ≤ sizeLine then some ((x.length : Int) != 0) else none
  | .tup xs => some (!xs.isEmpty)
  | .lst _ xs => some (!xs.isEmpty)
  | .dic _ xs => some (!xs.isEmpty)
  | _ => none
def gVal (g : GE) : GT := fun ρ => (g ρ).bind fun a => match truth a.1 with
  | some b => .ret (b, a.2)
  | none => .stuck
/-- a test by a value that is a bool -/
def gBl (g : GE) : GT := fun ρ => (g ρ).bind fun a => match a.1 with
  | .bl b => .ret (b, a.2)
  | _ => .stuck
def gAnd (g h : GT) : GT := fun ρ => (g ρ).bind fun a => if a.1 = true then h a.2 else .ret (false, a.2)
def gOr (g h : GT) : GT := fun ρ => (g ρ).bind fun a => if a.1 = true then .ret (true, a.2) else h a.2
def gNot (g : GT) : GT := fun ρ => (g ρ).bind fun a => .ret (!a.1, a.2)

section
variable {c : Cn} {X : Cx} {W : WX} {e a b : Expr} {rest : List Expr} {pos : Pos} {g h ga gb : GE} {gt gu : GT}

theorem ve_var {i : Nat} (hp : PE X e (tVar i)) : PE X e (tE c W (eVar i)) := imp_PE hp fun σ H Q ⟨ρ, F, er, z⟩ => by
  unfold eVar at z
  split at z
  · rename_i v q
    obtain ⟨w, h1, h2⟩ := er.fz q
    exact ⟨w, h1, z w F H (StpE.refl er) h2⟩
  · exact z.elim
theorem ve_const {v : PV} {w : V} (hp : PE X e (tC w)) (r : ∀ F, Rep c F w v) : PE X e (tE c W (eC v)) := imp_PE hp fun σ H Q ⟨ρ, F, er, z⟩ => z w F H (StpE.refl er) (r F)
theorem ve_int {i j pos} : PE X (.Constant (.int i) j pos) (tE c W (eC (.int i))) := ve_const pe_int fun _ => .int i
theorem ve_bl {i j pos} : PE X (.Constant (.bool i) j pos) (tE c W (eC (.bl i))) := ve_const pe_bl fun _ => .bl i
theorem ve_non {j pos} : PE X (.Constant .none j pos) (tE c W (eC .non)) := ve_const pe_non fun _ => .non
theorem ve_str {x j pos} : PE X (.Constant (.str x) j pos) (tE c W (eC (.str x))) := ve_const pe_str fun _ => .str x
/-- a module's int -/
theorem ve_gint {x : Str} {i : Int} (hg : Gl X x) (hm : ∃ t, X.mg x = some (.int i t)) (hd : (x == ("__debug__" : Str)) = false := by decide) : PE X (.Name x pos) (tE c W (eC (.int i))) := by
  obtain ⟨t, hm⟩ := hm
  exact ve_const (pe_glob hg hm (v := .int i) ⟨t, rfl⟩ hd) fun _ => .int i

def Op1 (c : Cn) (f : PV → Option PV) (r : V → Hp → VK → Prop) : Prop := ∀ (F H : Hp) (x : V) (a v : PV) (Q : VK), Same F H → Rep c F x a → f a = some v →
  (∀ w F' H', Grow F H F' H' → Rep c F' w v → Q w H') → r x H Q
def Op2 (c : Cn) (f : PV → PV → Option PV) (r : R2) : Prop := ∀ (F H : Hp) (x y : V) (a b v : PV) (Q : VK), Same F H → Rep c F x a → Rep c F y b → f a b = some v →
  (∀ w F' H', Grow F H F' H' → Rep c F' w v → Q w H') → r x y H Q
theorem Op1.use {f : PV → Option PV} {r : V → Hp → VK → Prop} (hf : Op1 c f r) {σ : St} {H : Hp} {Q : VK} (z : tE c W (eOp1 f g) σ H Q) : tE c W g σ H fun x H1 => r x H1 Q := by
  obtain ⟨ρ, F, er, z⟩ := z
  refine tE_bind er z fun v ρ1 w F1 H1 st rep h1 => ?_
  obtain ⟨u, e, h1⟩ := lift_run h1
  exact hf F1 H1 w v u Q st.2.sub rep e fun w' F' H' gr r => h1 w' F' H' (st.trans (gr.stpE st.2)) r
theorem Op2.use {f : PV → PV → Option PV} {r : R2} (hf : Op2 c f r) {σ : St} {H : Hp} {Q : VK} (z : tE c W (eOp2 f ga gb) σ H Q) :
    tE c W ga σ H fun x H1 => tE c W gb σ H1 fun y H2 => r x y H2 Q := by
  obtain ⟨ρ, F, er, z⟩ := z
  refine tE_bind er z fun v ρ1 w F1 H1 st rep h1 => ?_
  refine tE_bind st.2 h1 fun u ρ2 y F2 H2 st2 rep2 h2 => ?_
  obtain ⟨q, e, h2⟩ := lift_run h2
  exact hf F2 H2 w y v u q Q st2.2.sub (rep.mono st2.1.ff) rep2 e fun w' F' H' gr r => h2 w' F' H' (st.trans (st2.trans (gr.stpE st2.2))) r

theorem ve_op {op : Operator} {r : R2} {f : PV → PV → Option PV} (ho : OpR X (binaryOp op) r) (hf : Op2 c f r) (ha : PE X a (tE c W ga)) (hb : PE X b (tE c W gb)) : PE X (.BinOp a op b pos) (tE c W (eOp2 f ga gb)) :=
  imp_PE (pe_op ho ha hb) fun _ _ _ z => hf.use z
theorem ve_un {op : UnaryOp} {r : V → Hp → VK → Prop} {f : PV → Option PV} (ho : UnR X (unaryOp op) r) (hf : Op1 c f r) (ha : PE X a (tE c W ga)) : PE X (.UnaryOp op a pos) (tE c W (eOp1 f ga)) :=
  imp_PE (pe_un ho ha) fun _ _ _ z => hf.use z
theorem ve_cmp {op : CmpOp} {r : R2} {f : PV → PV → Option PV} (ho : OpR X (compareOp op) r) (hf : Op2 c f r) (hm : behindInMarks op b = false) (ha : PE X a (tE c W ga)) (hb : PE X b (tE c W gb)) :
    PE X (.Compare a [op] [b] pos) (tE c W (eOp2 f ga gb)) := imp_PE (pe_cmpR ho ha hb hm) fun _ _ _ z => hf.use z

/-! ### tests -/
theorem gBl_use {σ : St} {H : Hp} {Q : Bool → Hp → Prop} (z : tT c W (gBl g) σ H Q) : tE c W g σ H fun x H1 => ∃ k, x = .bl k ∧ Q k H1 := by
  obtain ⟨ρ, F, er, z⟩ := z
  refine tE_bind er z fun v ρ1 w F1 H1 st rep h1 => ?_
  cases v with
  | bl b =>
    cases rep
    exact ⟨b, rfl, h1 F1 H1 st⟩
  | _ => exact h1.elim
theorem vt_cmp {op : CmpOp} {r : R2} {f : PV → PV → Option PV} (ho : OpR X (compareOp op) r) (hf : Op2 c f r) (hm : behindInMarks op b = false) (ha : PE X a (tE c W ga)) (hb : PE X b (tE c W gb)) :
    PT X (.Compare a [op] [b] pos) (tT c W (gBl (eOp2 f ga gb))) := imp_PT (pt_cmpR ho ha hb hm) fun σ H Q z => hf.use (W := W) (Q := fun x H' => ∃ k, x = .bl k ∧ Q k H') (gBl_use z)
theorem truth_ok {F H : Hp} {x : V} {v : PV} {b : Bool} (s : Same F H) (r : Rep c F x v) (e : truth v = some b) : TruV c.K x H b := by
  cases r with
  | non => cases e; rfl
  | bl k => cases e; rfl
  | int i => cases e; rfl
  | str y =>
    have e' : (if y.length ≤ sizeLine then some ((y.length : Int) != 0) else none) = some b := e
    by_cases h : y.length ≤ sizeLine
    · rw [if_pos h] at e'
      cases e'
      exact ⟨h, rfl⟩
    · rw [if_neg h] at e'
      cases e'
  | tup h r => cases e; exact .inr (.inl ⟨_, SqT.of (s _ _ h), by rw [r.isEmpty]⟩)
  | lst h r _ => cases e; exact .inl ⟨_, SqL.of (s _ _ h), by rw [r.isEmpty]⟩
  | dic h r _ =>
    cases e
    refine .inr (.inr ⟨_, s _ _ h, ?_⟩)
    cases r <;> rfl
  | ins h r => cases e
  | scr h => cases e
  | any v => cases e
theorem gVal_use {σ : St} {H : Hp} {Q : Bool → Hp → Prop} (z : tT c W (gVal g) σ H Q) : tE c W g σ H fun x H1 => ∃ k, TruV c.K x H1 k ∧ Q k H1 := by
  obtain ⟨ρ, F, er, z⟩ := z
  refine tE_bind er z fun v ρ1 w F1 H1 st rep h1 => ?_
  dsimp only at h1
  split at h1
  · rename_i k hk
    exact ⟨k, truth_ok st.2.sub rep hk, h1 F1 H1 st⟩
  · exact h1.elim
theorem vt_val (hk : c.K = X.K) (ha : PE X a (tE c W ga)) (he : ∀ whole, isTrue a X.env whole = (do let v ← whole; standAt a.pos; holding [v] (truthy v)) := by intro _; rfl) : PT X a (tT c W (gVal ga)) :=
  imp_PT (pt_truth ha he) fun σ H Q z => by
    have q := gVal_use z
    rw [hk] at q
    exact q
theorem vt_not (h : PT X a (tT c W gt)) : PT X (.UnaryOp .Not a pos) (tT c W (gNot gt)) := imp_PT (pt_not h) fun σ H Q ⟨ρ, F, er, z⟩ => tT_bind er z fun v ρ1 F1 H1 st h1 => h1 F1 H1 st
theorem vw_and1 (ha : PT X a (tT c W gt)) : PW X (.BoolOp .And [a] pos) (tT c W gt) := pw_and1 ha
theorem vw_or1 (ha : PT X a (tT c W gt)) : PW X (.BoolOp .Or [a] pos) (tT c W gt) := pw_or1 ha
theorem vw_and (ha : PT X a (tT c W gt)) (hb : PW X (.BoolOp .And (b :: rest) pos) (tT c W gu)) : PW X (.BoolOp .And (a :: b :: rest) pos) (tT c W (gAnd gt gu)) :=
  imp_PW (pw_and ha hb) fun σ H Q ⟨ρ, F, er, z⟩ => tT_bind er z fun v ρ1 F1 H1 st h1 => by
    cases v with
    | true => exact ⟨ρ1, F1, st.2, (gu ρ1).mono (fun r q => OkT.step st q) (fun _ q => q) h1⟩
    | false => exact h1 F1 H1 st
theorem vw_or (ha : PT X a (tT c W gt)) (hb : PW X (.BoolOp .Or (b :: rest) pos) (tT c W gu)) : PW X (.BoolOp .Or (a :: b :: rest) pos) (tT c W (gOr gt gu)) :=
  imp_PW (pw_or ha hb) fun σ H Q ⟨ρ, F, er, z⟩ => tT_bind er z fun v ρ1 F1 H1 st h1 => by
    cases v with
    | false => exact ⟨ρ1, F1, st.2, (gu ρ1).mono (fun r q => OkT.step st q) (fun _ q => q) h1⟩
    | true => exact h1 F1 H1 st

/-! ### and, or, not, if as values -/
theorem ve_one {op} (h : PE X a (tE c W g)) : PE X (.BoolOp op [a] pos) (tE c W g) := pe_one h
theorem ve_and (ha : PE X a (tE c W ga)) (hb : PE X (.BoolOp .And (b :: rest) pos) (tE c W gb)) : PE X (.BoolOp .And (a :: b :: rest) pos) (tE c W (eAnd ga gb)) :=
  imp_PE (pe_and ha hb) fun σ H Q ⟨ρ, F, er, z⟩ => tE_bind er z fun v ρ1 w F1 H1 st rep h1 => by
    cases v with
    | bl k =>
      cases rep
      refine ⟨k, rfl, ?_⟩
      cases k with
      | true => exact ⟨ρ1, F1, st.2, (gb ρ1).mono (fun r q => OkE.step st q) (fun _ q => q) h1⟩
      | false => exact h1 _ F1 H1 st (.bl false)
    | _ => exact h1.elim
theorem ve_or (ha : PE X a (tE c W ga)) (hb : PE X (.BoolOp .Or (b :: rest) pos) (tE c W gb)) : PE X (.BoolOp .Or (a :: b :: rest) pos) (tE c W (eOr ga gb)) :=
  imp_PE (pe_or ha hb) fun σ H Q ⟨ρ, F, er, z⟩ => tE_bind er z fun v ρ1 w F1 H1 st rep h1 => by
    cases v with
    | bl k =>
      cases rep
      refine ⟨k, rfl, ?_⟩
      cases k with
      | false => exact ⟨ρ1, F1, st.2, (gb ρ1).mono (fun r q => OkE.step st q) (fun _ q => q) h1⟩
      | true => exact h1 _ F1 H1 st (.bl true)
    | _ => exact h1.elim
theorem ve_not (ha : PE X a (tE c W ga)) : PE X (.UnaryOp .Not a pos) (tE c W (eNot ga)) :=
  imp_PE (pe_not ha) fun σ H Q ⟨ρ, F, er, z⟩ => tE_bind er z fun v ρ1 w F1 H1 st rep h1 => by
    cases v with
    | bl k =>
      cases rep
      exact ⟨k, rfl, h1 _ F1 H1 st (.bl _)⟩
    | _ => exact h1.elim
theorem ve_if {t : Expr} (ht : PT X t (tT c W gt)) (ha : PE X a (tE c W ga)) (hb : PE X b (tE c W gb)) : PE X (.IfExp t a b pos) (tE c W (eIf gt ga gb)) :=
  imp_PE (pe_ifExp ht ha hb) fun σ H Q ⟨ρ, F, er, z⟩ => tT_bind er z fun v ρ1 F1 H1 st h1 => by
    cases v with
    | true => exact ⟨ρ1, F1, st.2, (ga ρ1).mono (fun r q => OkE.step st q) (fun _ q => q) h1⟩
    | false => exact ⟨ρ1, F1, st.2, (gb ρ1).mono (fun r q => OkE.step st q) (fun _ q => q) h1⟩

/-! ### argument lists -/
abbrev GA := Env' → Wp XE' (List PV × Env')
def aNil : GA := fun ρ => .ret ([], ρ)
def aCons (g : GE) (h : GA) : GA := fun ρ => (g ρ).bind fun a => (h a.2).bind fun b => .ret (a.1 :: b.1, b.2)
def OkA (c : Cn) (n : Nat) (σ : St) (ρ : Env') (F H : Hp) (Q : List V → Hp → Prop) : List PV × Env' → Prop := fun r => ∀ ws F' H', StpE c σ ρ F H r.2 F' H' → Reps c F' ws r.1 → ws.length = n → Q ws H'
/-- n values, from the left -/
def tA (c : Cn) (W : WX) (n : Nat) (g : GA) : TA := fun σ H Q => ∃ ρ F, ER c F H σ ρ ∧ (g ρ).run (OkA c n σ ρ F H Q) (ErE c W σ ρ F H)
theorem tA_bind {α : Type} {n : Nat} {σ : St} {ρ : Env'} {F H : Hp} {g : GA} {k : List PV × Env' → Wp XE' α} {R : List V → Hp → Prop} {Z : α → Prop} (er : ER c F H σ ρ) (h : ((g ρ).bind k).run Z (ErE c W σ ρ F H))
    (hk : ∀ v ρ1 w F1 H1, StpE c σ ρ F H ρ1 F1 H1 → Reps c F1 w v → w.length = n → (k (v, ρ1)).run Z (ErE c W σ ρ1 F1 H1) → R w H1) : tA c W n g σ H R :=
  ⟨ρ, F, er, (g ρ).mono (fun r h1 w F1 H1 st rep hl => hk r.1 r.2 w F1 H1 st rep hl ((k r).mono (fun _ z => z) (fun _ => ErE.step st) h1)) (fun _ z => z) h⟩
theorem va_nil : PA X [] (tA c W 0 aNil) := imp_PA pa_nil fun σ H Q ⟨ρ, F, er, z⟩ => z [] F H (StpE.refl er) .nil rfl
theorem va_cons {es : List Expr} {n : Nat} {gr : GA} (ha : PE X a (tE c W ga)) (hr : PA X es (tA c W n gr)) (hs : starEach (a :: es) X.env = (false, eval a X.env) :: starEach es X.env := by rfl) : PA X (a :: es) (tA c W (n + 1) (aCons ga gr)) :=
  imp_PA (pa_cons ha hr hs) fun σ H Q ⟨ρ, F, er, z⟩ => tE_bind er z fun v ρ1 w F1 H1 st rep h1 =>
    tA_bind st.2 h1 fun u ρ2 y F2 H2 st2 rep2 hl h2 => h2 (w :: y) F2 H2 (st.trans st2) (.cons (rep.mono st2.1.ff) rep2) (by rw [List.length_cons, hl])

/-! ### displays: a new object -/
def eTup (g : GA) : GE := fun ρ => (g ρ).bind fun a => if a.1.length ≤ sizeLine then .ret (.tup a.1, a.2) else .stuck
theorem ve_tup {es : List Expr} {gr : GA} {k n : Nat} (h : PA X es (tA c W n gr)) : PE X (.Tuple es k pos) (tE c W (eTup gr)) :=
  imp_PE (pe_tup h) fun σ H Q ⟨ρ, F, er, z⟩ => tA_bind er z fun v ρ1 w F1 H1 st rep hl h1 => by
    by_cases hz : v.length ≤ sizeLine
    · dsimp only at h1
      rw [if_pos hz] at h1
      refine ⟨by rw [rep.length]; exact hz, fun p hp => ?_⟩
      have gr := upd_grow (o := .tup w) st.2.sub hp
      exact h1 _ _ _ (st.trans (gr.stpE st.2)) (.tup upd_same (rep.mono gr.ff))
    · dsimp only at h1
      rw [if_neg hz] at h1
      exact h1.elim
/-- a new list as a program: its items -/
abbrev GL := Env' → Wp XE' (List PV × Env')
/-- .. the list is new and nobody's -/
def OkL (c : Cn) (σ : St) (ρ : Env') (F H : Hp) (Q : VK) : List PV × Env' → Prop := fun r => ∀ p vs F' H', StpE c σ ρ F H r.2 F' H' → H p = none → F' p = none → H' p = some (.lst vs) → ¬ Own σ r.2 p → Reps c F' vs r.1 → Q (.ref p) H'
def tL (c : Cn) (W : WX) (g : GL) : TE := fun σ H Q => ∃ ρ F, ER c F H σ ρ ∧ (g ρ).run (OkL c σ ρ F H Q) (ErE c W σ ρ F H)
def eLst (g : GL) : GE := fun ρ => (g ρ).bind fun a => .ret (.lst none a.1, a.2)
/-- a list that is nobody's is frozen -/
theorem freeze_grow {F H : Hp} {p : Addr} {o : HO} (s : Same F H) (hF : F p = none) (hH : H p = some o) : Same F (upd F p o) ∧ Same (upd F p o) H := by
  refine ⟨fun b u h => ?_, fun b u h => ?_⟩
  · rw [upd_ne (ne_of_none h hF)]; exact h
  · by_cases hb : b = p
    · subst hb; rw [upd_same] at h; rw [hH]; exact h
    · rw [upd_ne hb] at h; exact s _ _ h
theorem freeze_slot {F H : Hp} {p : Addr} {ob : HO} {o : Option V} {s : SV} (hF : F p = none) (n : ∀ q, o = some (.ref q) → s.own = true → q ≠ p) (h : SlotR c F H o s) : SlotR c (upd F p ob) H o s := by
  have ff : Same F (upd F p ob) := fun b u h => by rw [upd_ne (ne_of_none h hF)]; exact h
  cases s with
  | un => trivial
  | fz v => obtain ⟨w, e, r⟩ := h; exact ⟨w, e, r.mono ff⟩
  | ow xs => obtain ⟨q, vs, e, f, h, r⟩ := h; exact ⟨q, vs, e, by rw [upd_ne (n q e rfl)]; exact f, h, r.mono ff⟩
  | bx k => obtain ⟨q, vs, e, f, h, r⟩ := h; exact ⟨q, vs, e, by rw [upd_ne (n q e rfl)]; exact f, h, r⟩
theorem freeze_er {F H : Hp} {σ : St} {ρ : Env'} {p : Addr} {ob : HO} (er : ER c F H σ ρ) (hF : F p = none) (hH : H p = some ob) (n : ¬ Own σ ρ p) : ER c (upd F p ob) H σ ρ :=
  ⟨(freeze_grow er.sub hF hH).2, er.len, fun i o s h1 h2 => freeze_slot hF (fun q e1 e2 e3 => n (by subst e3; exact ⟨i, s, by rw [h1, e1], h2, e2⟩)) (er.slot i o s h1 h2), er.dis, er.mrk⟩
theorem ve_lst {gl : GL} (h : PE X e (tL c W gl)) : PE X e (tE c W (eLst gl)) := imp_PE h fun σ H Q ⟨ρ, F, er, z⟩ =>
  ⟨ρ, F, er, (gl ρ).mono (fun r (q : OkE c σ ρ F H Q (.lst none r.1, r.2)) p vs F' H' st hn hF hH no rep => by
    have f := freeze_grow st.2.sub hF hH
    refine q (.ref p) (upd F' p (.lst vs)) H' ⟨⟨st.1.ff.trans f.1, fun b o h n => ?_, st.1.th, st.1.ow⟩, freeze_er st.2 hF hH no⟩ (.lst upd_same (rep.mono f.1) (fun _ z => nomatch z))
    obtain ⟨h1, h2⟩ := st.1.hh b o h n
    exact ⟨h1, fun z => by rw [upd_ne (ne_of_none h hn)]; exact h2 z⟩) (fun _ q => q) z⟩
def lDisp (g : GA) : GL := fun ρ => (g ρ).bind fun a => if a.1.length ≤ sizeLine then .ret a else .stuck
theorem not_own_new {F H : Hp} {σ : St} {ρ : Env'} {p : Addr} (er : ER c F H σ ρ) (h : H p = none) : ¬ Own σ ρ p := fun o => by
  obtain ⟨_, vs, q⟩ := Own.tracked er o
  rw [h] at q
  cases q
/-- a new list laid at p, from a state behind -/
theorem laidL {σ : St} {ρ ρ1 : Env'} {F H F1 H1 : Hp} {Q : VK} {p : Addr} {ws : List V} {v : List PV} (st : StpE c σ ρ F H ρ1 F1 H1) (q : OkL c σ ρ F H Q (v, ρ1)) (hp : H1 p = none) (r : Reps c F1 ws v) : Q (.ref p) (upd H1 p (.lst ws)) := by
  have gr := upd_growH (o := .lst ws) st.2.sub hp
  refine q p ws F1 _ (st.trans (gr.stpE st.2)) ?_ ?_ upd_same (not_own_new st.2 hp) r
  · cases e : H p with
    | none => rfl
    | some o => obtain ⟨o', e'⟩ := st.1.th p o e; rw [hp] at e'; cases e'
  · exact st.2.sub.free hp
theorem vl_disp {es : List Expr} {n : Nat} {gr : GA} (h : PA X es (tA c W n gr)) : PE X (.List es pos) (tL c W (lDisp gr)) :=
  imp_PE (pe_lst h) fun σ H Q ⟨ρ, F, er, z⟩ => tA_bind er z fun v ρ1 w F1 H1 st rep hl h1 => by
    by_cases hz : v.length ≤ sizeLine
    · dsimp only at h1
      rw [if_pos hz] at h1
      exact ⟨by rw [rep.length]; exact hz, fun p hp => laidL st h1 hp rep⟩
    · dsimp only at h1
      rw [if_neg hz] at h1
      exact h1.elim
/-- lists by operators on two values, one value -/
def lift' (o : Option (List PV)) (ρ : Env') : Wp XE' (List PV × Env') := match o with
  | some v => .ret (v, ρ)
  | none => .stuck
@[simp] theorem lift'_some (v : List PV) (ρ : Env') : lift' (some v) ρ = .ret (v, ρ) := (rfl)
theorem lift'_run {o : Option (List PV)} {ρ : Env'} {K : List PV × Env' → Prop} {E : XE' → Prop} (h : (lift' o ρ).run K E) : ∃ v, o = some v ∧ K (v, ρ) := by
  cases o with
  | none => exact h.elim
  | some v => exact ⟨v, rfl, h⟩
def lOp1 (f : PV → Option (List PV)) (g : GE) : GL := fun ρ => (g ρ).bind fun a => lift' (f a.1) a.2
def lOp2 (f : PV → PV → Option (List PV)) (g h : GE) : GL := fun ρ => (g ρ).bind fun a => (h a.2).bind fun b => lift' (f a.1 b.1) b.2
def Ol1 (c : Cn) (f : PV → Option (List PV)) (r : V → Hp → VK → Prop) : Prop := ∀ (F H : Hp) (x : V) (a : PV) (v : List PV) (Q : VK), Same F H → Rep c F x a → f a = some v →
  (∀ ws, Reps c F ws v → ∀ p, H p = none → Q (.ref p) (upd H p (.lst ws))) → r x H Q
def Ol2 (c : Cn) (f : PV → PV → Option (List PV)) (r : R2) : Prop := ∀ (F H : Hp) (x y : V) (a b : PV) (v : List PV) (Q : VK), Same F H → Rep c F x a → Rep c F y b → f a b = some v →
  (∀ ws, Reps c F ws v → ∀ p, H p = none → Q (.ref p) (upd H p (.lst ws))) → r x y H Q
theorem Ol1.use {f : PV → Option (List PV)} {r : V → Hp → VK → Prop} (hf : Ol1 c f r) {σ : St} {H : Hp} {Q : VK} (z : tL c W (lOp1 f g) σ H Q) : tE c W g σ H fun x H1 => r x H1 Q := by
  obtain ⟨ρ, F, er, z⟩ := z
  refine tE_bind er z fun v ρ1 w F1 H1 st rep h1 => ?_
  obtain ⟨u, e, h1⟩ := lift'_run h1
  exact hf F1 H1 w v u Q st.2.sub rep e fun ws r p hp => laidL st h1 hp r
theorem Ol2.use {f : PV → PV → Option (List PV)} {r : R2} (hf : Ol2 c f r) {σ : St} {H : Hp} {Q : VK} (z : tL c W (lOp2 f ga gb) σ H Q) :
    tE c W ga σ H fun x H1 => tE c W gb σ H1 fun y H2 => r x y H2 Q := by
  obtain ⟨ρ, F, er, z⟩ := z
  refine tE_bind er z fun v ρ1 w F1 H1 st rep h1 => ?_
  refine tE_bind st.2 h1 fun u ρ2 y F2 H2 st2 rep2 h2 => ?_
  obtain ⟨q, e, h2⟩ := lift'_run h2
  exact hf F2 H2 w y v u q Q st2.2.sub (rep.mono st2.1.ff) rep2 e fun ws r p hp => laidL (st.trans st2) h2 hp r
theorem vl_op {op : Operator} {r : R2} {f : PV → PV → Option (List PV)} (ho : OpR X (binaryOp op) r) (hf : Ol2 c f r) (ha : PE X a (tE c W ga)) (hb : PE X b (tE c W gb)) : PE X (.BinOp a op b pos) (tL c W (lOp2 f ga gb)) :=
  imp_PE (pe_op ho ha hb) fun _ _ _ z => hf.use z

/-! ### built-ins by name -/
section
variable {x : Str} {p : Pos} {id T : String} {r : List V → Hp → VK → Prop}
theorem ve_callB {f : PV → Option PV} (hc : CallR X (.builtin id) r) (hf : Op1 c f fun x => r [x]) (hg : Gl X x) (hm : X.mg x = none) (hv : bootBuiltins x = some (.builtin id)) (ha : PE X a (tE c W ga))
    (hn : x ≠ "__name__" := by decide) (hdb : (x == ("__debug__" : Str)) = false := by decide) (he : starEach [a] X.env = (false, eval a X.env) :: starEach [] X.env := by rfl) : PE X (.Call (.Name x p) [a] [] pos) (tE c W (eOp1 f ga)) :=
  imp_PE (pe_callB hc hg hm hv (pa_cons ha pa_nil he) hn hdb he) fun _ _ _ z => hf.use z
theorem ve_callTy {f : PV → Option PV} (hc : CallR X (.type T) r) (hf : Op1 c f fun x => r [x]) (hg : Gl X x) (hm : X.mg x = none) (hv : bootBuiltins x = some (.type T)) (ha : PE X a (tE c W ga))
    (hn : x ≠ "__name__" := by decide) (hdb : (x == ("__debug__" : Str)) = false := by decide) (he : starEach [a] X.env = (false, eval a X.env) :: starEach [] X.env := by rfl) : PE X (.Call (.Name x p) [a] [] pos) (tE c W (eOp1 f ga)) :=
  imp_PE (pe_callTy hc hg hm hv (pa_cons ha pa_nil he) hn hdb he) fun _ _ _ z => hf.use z
theorem ve_callB2 {f : PV → PV → Option PV} (hc : CallR X (.builtin id) r) (hf : Op2 c f fun x y => r [x, y]) (hg : Gl X x) (hm : X.mg x = none) (hv : bootBuiltins x = some (.builtin id)) (ha : PE X a (tE c W ga)) (hb : PE X b (tE c W gb))
    (hn : x ≠ "__name__" := by decide) (hdb : (x == ("__debug__" : Str)) = false := by decide) (he : starEach [a, b] X.env = (false, eval a X.env) :: starEach [b] X.env := by rfl) (he2 : starEach [b] X.env = (false, eval b X.env) :: starEach [] X.env := by rfl)
    (hpl : (backTo pos (starEach [b] X.env)).any (·.1) = false := by rfl) : PE X (.Call (.Name x p) [a, b] [] pos) (tE c W (eOp2 f ga gb)) :=
  imp_PE (pe_callB hc hg hm hv (pa_cons ha (pa_cons hb pa_nil he2) he) hn hdb he hpl) fun _ _ _ z => hf.use z
theorem vl_callTy {f : PV → Option (List PV)} (hc : CallR X (.type T) r) (hf : Ol1 c f fun x => r [x]) (hg : Gl X x) (hm : X.mg x = none) (hv : bootBuiltins x = some (.type T)) (ha : PE X a (tE c W ga))
    (hn : x ≠ "__name__" := by decide) (hdb : (x == ("__debug__" : Str)) = false := by decide) (he : starEach [a] X.env = (false, eval a X.env) :: starEach [] X.env := by rfl) : PE X (.Call (.Name x p) [a] [] pos) (tL c W (lOp1 f ga)) :=
  imp_PE (pe_callTy hc hg hm hv (pa_cons ha pa_nil he) hn hdb he) fun _ _ _ z => hf.use z
theorem vl_callB {f : PV → Option (List PV)} (hc : CallR X (.builtin id) r) (hf : Ol1 c f fun x => r [x]) (hg : Gl X x) (hm : X.mg x = none) (hv : bootBuiltins x = some (.builtin id)) (ha : PE X a (tE c W ga))
    (hn : x ≠ "__name__" := by decide) (hdb : (x == ("__debug__" : Str)) = false := by decide) (he : starEach [a] X.env = (false, eval a X.env) :: starEach [] X.env := by rfl) : PE X (.Call (.Name x p) [a] [] pos) (tL c W (lOp1 f ga)) :=
  imp_PE (pe_callB hc hg hm hv (pa_cons ha pa_nil he) hn hdb he) fun _ _ _ z => hf.use z
end

/-! ### subscripts -/
theorem ve_ix {r : R2} {f : PV → PV → Option PV} (ho : IxR X r) (hf : Op2 c f r) (ha : PE X a (tE c W ga)) (hb : PE X b (tE c W gb)) (hs : PlainIx b := by intro _ _; rfl) : PE X (.Subscript a b pos) (tE c W (eOp2 f ga gb)) :=
  imp_PE (pe_ix ho ha hb hs) fun _ _ _ z => hf.use z
/-- parts of a slice -/
abbrev GO := Env' → Wp XE' (Option Int × Env')
def oNone : GO := fun ρ => .ret (none, ρ)
def oSome (g : GE) : GO := fun ρ => (g ρ).bind fun a => match a.1 with
  | .int i => .ret (some i, a.2)
  | _ => .stuck
def OkO (c : Cn) (σ : St) (ρ : Env') (F H : Hp) (Q : Option Int → Hp → Prop) : Option Int × Env' → Prop := fun r => ∀ F' H', StpE c σ ρ F H r.2 F' H' → Q r.1 H'
def tO (c : Cn) (W : WX) (g : GO) : TO := fun σ H Q => ∃ ρ F, ER c F H σ ρ ∧ (g ρ).run (OkO c σ ρ F H Q) (ErE c W σ ρ F H)
theorem imp_PO {e : Option Expr} {t t' : TO} (h : PO X e t) (f : ∀ σ H Q, t' σ H Q → t σ H Q) : PO X e t' := ⟨fun pins s σ H Q I hw => h.run pins s σ H Q I (f σ H Q hw)⟩
theorem tO_bind {α : Type} {σ : St} {ρ : Env'} {F H : Hp} {g : GO} {k : Option Int × Env' → Wp XE' α} {R : Option Int → Hp → Prop} {Z : α → Prop} (er : ER c F H σ ρ) (h : ((g ρ).bind k).run Z (ErE c W σ ρ F H))
    (hk : ∀ v ρ1 F1 H1, StpE c σ ρ F H ρ1 F1 H1 → (k (v, ρ1)).run Z (ErE c W σ ρ1 F1 H1) → R v H1) : tO c W g σ H R :=
  ⟨ρ, F, er, (g ρ).mono (fun r h1 F1 H1 st => hk r.1 r.2 F1 H1 st ((k r).mono (fun _ z => z) (fun _ => ErE.step st) h1)) (fun _ z => z) h⟩
theorem vo_none : PO X none (tO c W oNone) := imp_PO po_none fun σ H Q ⟨ρ, F, er, z⟩ => z F H (StpE.refl er)
theorem vo_some (h : PE X a (tE c W ga)) : PO X (some a) (tO c W (oSome ga)) := imp_PO (po_some h) fun σ H Q ⟨ρ, F, er, z⟩ => tE_bind er z fun v ρ1 w F1 H1 st rep h1 => by
  cases v with
  | int i => cases rep; exact ⟨i, rfl, h1 F1 H1 st⟩
  | _ => exact h1.elim
def eSl (f : PV → Option Int → Option Int → Option PV) (g : GE) (l u : GO) : GE := fun ρ => (g ρ).bind fun a => (l a.2).bind fun i => (u i.2).bind fun j => lift (f a.1 i.1 j.1) j.2
def lSl (f : PV → Option Int → Option Int → Option (List PV)) (g : GE) (l u : GO) : GL := fun ρ => (g ρ).bind fun a => (l a.2).bind fun i => (u i.2).bind fun j => lift' (f a.1 i.1 j.1) j.2
def OpS (c : Cn) (f : PV → Option Int → Option Int → Option PV) (r : V → Option Int → Option Int → Hp → VK → Prop) : Prop := ∀ lo hi, Op1 c (fun a => f a lo hi) fun x => r x lo hi
def OlS (c : Cn) (f : PV → Option Int → Option Int → Option (List PV)) (r : V → Option Int → Option Int → Hp → VK → Prop) : Prop := ∀ lo hi, Ol1 c (fun a => f a lo hi) fun x => r x lo hi
theorem ve_slice {f : PV → Option Int → Option Int → Option PV} {r : V → Option Int → Option Int → Hp → VK → Prop} {lo hi : Option Expr} {p2 : Pos} {gl gu : GO} (hr : SlR X r) (hf : OpS c f r) (ha : PE X a (tE c W ga)) (hl : PO X lo (tO c W gl)) (hu : PO X hi (tO c W gu)) :
    PE X (.Subscript a (.Slice lo hi none p2) pos) (tE c W (eSl f ga gl gu)) := imp_PE (pe_slice hr ha hl hu) fun σ H Q ⟨ρ, F, er, z⟩ => by
  refine tE_bind er z fun v ρ1 w F1 H1 st rep h1 => tO_bind st.2 h1 fun i ρ2 F2 H2 st2 h2 => tO_bind st2.2 h2 fun j ρ3 F3 H3 st3 h3 => ?_
  obtain ⟨u, e, h3⟩ := lift_run h3
  exact hf i j F3 H3 w v u Q st3.2.sub (rep.mono (st2.trans st3).1.ff) e fun w' F' H' gr r => h3 w' F' H' (st.trans (st2.trans (st3.trans (gr.stpE st3.2)))) r
theorem vl_slice {f : PV → Option Int → Option Int → Option (List PV)} {r : V → Option Int → Option Int → Hp → VK → Prop} {lo hi : Option Expr} {p2 : Pos} {gl gu : GO} (hr : SlR X r) (hf : OlS c f r) (ha : PE X a (tE c W ga)) (hl : PO X lo (tO c W gl)) (hu : PO X hi (tO c W gu)) :
    PE X (.Subscript a (.Slice lo hi none p2) pos) (tL c W (lSl f ga gl gu)) := imp_PE (pe_slice hr ha hl hu) fun σ H Q ⟨ρ, F, er, z⟩ => by
  refine tE_bind er z fun v ρ1 w F1 H1 st rep h1 => tO_bind st.2 h1 fun i ρ2 F2 H2 st2 h2 => tO_bind st2.2 h2 fun j ρ3 F3 H3 st3 h3 => ?_
  obtain ⟨u, e, h3⟩ := lift'_run h3
  exact hf i j F3 H3 w v u Q st3.2.sub (rep.mono (st2.trans st3).1.ff) e fun ws r p hp => laidL (st.trans (st2.trans st3)) h3 hp r

/-! ### methods of built-in values -/
def MtOk (c : Cn) (T : String) (f : PV → List PV → Option PV) (r : V → List V → Hp → VK → Prop) : Prop := (∀ (F H : Hp) (x : V) (a : PV) , Same F H → Rep c F x a → (∃ xs v, f a xs = some v) → tyV c.K T x H) ∧
  ∀ (F H : Hp) (x : V) (ys : List V) (a v : PV) (xs : List PV) (Q : VK), Same F H → Rep c F x a → Reps c F ys xs → f a xs = some v → (∀ w F' H', Grow F H F' H' → Rep c F' w v → Q w H') → r x ys H Q
end
end VL

set_option Elab.async false
set_option linter.all false
set_option maxRecDepth 100000
set_option maxHeartbeats 1000000
/-! VL, part 3: the operations on trees. -/
namespace VL
open PySem PySem.Spec PyProof.Rows L2

/-! ### arithmetic -/
def pAdd : PV → PV → Option PV
  | .int i, .int j => some (.int (i + j))
  | .str x, .str y => if x.length + y.length ≤ sizeLine then some (.str (x ++ y)) else none
  | .tup xs, .tup ys => if xs.length + ys.length ≤ sizeLine then some (.tup (xs ++ ys)) else none
  | .lst _ xs, .lst _ ys => if xs.length + ys.length ≤ sizeLine then some (.lst none (xs ++ ys)) else none
  | _, _ => none
def pSub : PV → PV → Option PV
  | .int i, .int j => some (.int (i - j))
  | _, _ => none
def pMul : PV → PV → Option PV
  | .int i, .int j => if i.natAbs.log2 + j.natAbs.log2 < 1000000 then some (.int (i * j)) else none
  | .str x, .int k => if 2 ≤ k ∧ k < 1000000 ∧ 0 < x.length ∧ x.length * k.toNat ≤ sizeLine then some (.str ⟨(List.replicate k.toNat x.cps).foldl (· ++ ·) #[]⟩) else none
  | .lst _ xs, .int k => if k < 9223372036854775808 ∧ -9223372036854775808 ≤ k ∧ xs.length * k.toNat ≤ sizeLine then some (.lst none (List.replicate k.toNat xs).flatten) else none
  | _, _ => none
def pFdiv : PV → PV → Option PV
  | .int i, .int j => if 0 < j ∧ j < 1073741824 then some (.int (i / j)) else none
  | _, _ => none
def pMod : PV → PV → Option PV
  | .int i, .int j => if 0 < j then some (.int (i % j)) else none
  | _, _ => none
def pPow : PV → PV → Option PV
  | .int i, .int j => if 0 ≤ j ∧ j ≤ 1000000 ∧ i.natAbs < 2 ^ 64 then some (.int (i ^ j.toNat)) else none
  | _, _ => none
def pNeg : PV → Option PV
  | .int i => some (.int (-i))
  | _ => none
def pLt : PV → PV → Option PV
  | .int i, .int j => some (.bl (decide (i < j)))
  | _, _ => none
def pLe : PV → PV → Option PV
  | .int i, .int j => some (.bl (decide (i ≤ j)))
  | _, _ => none
def pGt : PV → PV → Option PV
  | .int i, .int j => some (.bl (decide (j < i)))
  | _, _ => none
def pGe : PV → PV → Option PV
  | .int i, .int j => some (.bl (decide (j ≤ i)))
  | _, _ => none

section
variable {c : Cn} {X : Cx}
theorem of2I {f : PV → PV → Option PV} {r : R2} (h : ∀ (F H : Hp) (i j : Int) (v : PV) (Q : VK), Same F H → f (.int i) (.int j) = some v → (∀ w F' H', Grow F H F' H' → Rep c F' w v → Q w H') → r (.int i) (.int j) H Q)
    (hn : ∀ a b v, f a b = some v → ∃ i j, a = .int i ∧ b = .int j) : Op2 c f r := fun F H x y a b v Q s ra rb e q => by
  obtain ⟨i, j, rfl, rfl⟩ := hn a b v e
  cases ra
  cases rb
  exact h F H i j v Q s e q
theorem two_int {f : PV → PV → Option PV} (h : ∀ a b, (∀ i j, a = .int i → b = .int j → False) → f a b = none) : ∀ a b v, f a b = some v → ∃ i j, a = .int i ∧ b = .int j := fun a b v e => by
  by_cases q : ∃ i j, a = .int i ∧ b = .int j
  · exact q
  · rw [h a b fun i j e1 e2 => q ⟨i, j, e1, e2⟩] at e
    cases e
theorem o_sub : Op2 c pSub (rI0 fun i j => .int (i - j)) := of2I (fun F H i j v Q s e q => by
  cases e
  exact ⟨i, j, rfl, rfl, q _ F H (Grow.refl s) (.int _)⟩) fun a b v e => by
  unfold pSub at e
  split at e
  · exact ⟨_, _, rfl, rfl⟩
  · cases e
theorem o_fdiv : Op2 c pFdiv (rI CDiv fun i j => .int (i / j)) := of2I (fun F H i j v Q s e q => by
  simp only [pFdiv] at e
  by_cases h : 0 < j ∧ j < 1073741824
  · rw [if_pos h] at e
    cases e
    exact ⟨i, j, rfl, rfl, h, q _ F H (Grow.refl s) (.int _)⟩
  · rw [if_neg h] at e
    cases e) fun a b v e => by
  unfold pFdiv at e
  split at e
  · exact ⟨_, _, rfl, rfl⟩
  · cases e
theorem o_mod : Op2 c pMod (rI (fun _ j => 0 < j) fun i j => .int (i % j)) := of2I (fun F H i j v Q s e q => by
  simp only [pMod] at e
  by_cases h : 0 < j
  · rw [if_pos h] at e
    cases e
    exact ⟨i, j, rfl, rfl, h, q _ F H (Grow.refl s) (.int _)⟩
  · rw [if_neg h] at e
    cases e) fun a b v e => by
  unfold pMod at e
  split at e
  · exact ⟨_, _, rfl, rfl⟩
  · cases e
theorem o_pow : Op2 c pPow (rI CPow fun i j => .int (i ^ j.toNat)) := of2I (fun F H i j v Q s e q => by
  simp only [pPow] at e
  by_cases h : 0 ≤ j ∧ j ≤ 1000000 ∧ i.natAbs < 2 ^ 64
  · rw [if_pos h] at e
    cases e
    exact ⟨i, j, rfl, rfl, h, q _ F H (Grow.refl s) (.int _)⟩
  · rw [if_neg h] at e
    cases e) fun a b v e => by
  unfold pPow at e
  split at e
  · exact ⟨_, _, rfl, rfl⟩
  · cases e
theorem o_lt : Op2 c pLt (rI0 fun i j => .bl (decide (i < j))) := of2I (fun F H i j v Q s e q => by
  cases e
  exact ⟨i, j, rfl, rfl, q _ F H (Grow.refl s) (.bl _)⟩) fun a b v e => by
  unfold pLt at e
  split at e
  · exact ⟨_, _, rfl, rfl⟩
  · cases e
theorem o_le : Op2 c pLe (rI0 fun i j => .bl (decide (i ≤ j))) := of2I (fun F H i j v Q s e q => by
  cases e
  exact ⟨i, j, rfl, rfl, q _ F H (Grow.refl s) (.bl _)⟩) fun a b v e => by
  unfold pLe at e
  split at e
  · exact ⟨_, _, rfl, rfl⟩
  · cases e
theorem o_gt : Op2 c pGt (rI0 fun i j => .bl (decide (j < i))) := of2I (fun F H i j v Q s e q => by
  cases e
  exact ⟨i, j, rfl, rfl, q _ F H (Grow.refl s) (.bl _)⟩) fun a b v e => by
  unfold pGt at e
  split at e
  · exact ⟨_, _, rfl, rfl⟩
  · cases e
theorem o_ge : Op2 c pGe (rI0 fun i j => .bl (decide (j ≤ i))) := of2I (fun F H i j v Q s e q => by
  cases e
  exact ⟨i, j, rfl, rfl, q _ F H (Grow.refl s) (.bl _)⟩) fun a b v e => by
  unfold pGe at e
  split at e
  · exact ⟨_, _, rfl, rfl⟩
  · cases e
theorem o_neg : Op1 c pNeg (rU fun i => .int (-i)) := fun F H x a v Q s ra e q => by
  cases ra with
  | int i => cases e; exact ⟨i, rfl, q _ F H (Grow.refl s) (.int _)⟩
  | _ => cases e

/-- +: ints, texts, tuples, lists -/
def rAdd4 (K : PySem.W.Frag) : R2 := fun x y H Q => (rI0 fun i j => .int (i + j)) x y H Q ∨ ((∃ i j, x = .str i ∧ y = .str j ∧ i.length + j.length ≤ sizeLine ∧ Q (.str (i ++ j)) H) ∨ (rCatA K x y H Q ∨ rCat x y H Q))
theorem op_add4 : OpR X (binaryOp .Add) (rAdd4 X.K) := op_add.or (op_add_str.or (op_catA.or op_cat))
theorem o_add (hk : c.K = X.K) : Op2 c pAdd (rAdd4 X.K) := fun F H x y a b v Q s ra rb e q => by
  cases ra with
  | int i =>
    cases rb with
    | int j => cases e; exact .inl ⟨i, j, rfl, rfl, q _ F H (Grow.refl s) (.int _)⟩
    | _ => cases e
  | str i =>
    cases rb with
    | str j =>
      have e' : (if i.length + j.length ≤ sizeLine then some (PV.str (i ++ j)) else none) = some v := e
      by_cases h : i.length + j.length ≤ sizeLine
      · rw [if_pos h] at e'
        cases e'
        exact .inr (.inl ⟨i, j, rfl, rfl, h, q _ F H (Grow.refl s) (.str _)⟩)
      · rw [if_neg h] at e'
        cases e'
    | _ => cases e
  | @tup a1 vs xs h1 r1 =>
    cases rb with
    | @tup a2 ws ys h2 r2 =>
      have e' : (if xs.length + ys.length ≤ sizeLine then some (PV.tup (xs ++ ys)) else none) = some v := e
      by_cases h : xs.length + ys.length ≤ sizeLine
      · rw [if_pos h] at e'
        cases e'
        refine .inr (.inr (.inl ⟨a1, a2, vs, ws, rfl, rfl, SqT.of (s _ _ h1), SqT.of (s _ _ h2), by rw [r1.length, r2.length]; exact h, fun z => ?_, fun _ z => ?_, fun _ _ p hp => ?_⟩))
        · subst z
          cases r1
          exact q _ F H (Grow.refl s) (.tup h2 r2)
        · subst z
          cases r2
          exact q _ F H (Grow.refl s) (by rw [List.append_nil]; exact .tup h1 r1)
        · have gr := upd_grow (o := .tup (vs ++ ws)) s hp
          exact q _ _ _ gr (.tup upd_same ((r1.append r2).mono gr.ff))
      · rw [if_neg h] at e'
        cases e'
    | _ => cases e
  | @lst a1 vs g1 xs h1 r1 t1 =>
    cases rb with
    | @lst a2 ws g2 ys h2 r2 t2 =>
      have e' : (if xs.length + ys.length ≤ sizeLine then some (PV.lst none (xs ++ ys)) else none) = some v := e
      by_cases h : xs.length + ys.length ≤ sizeLine
      · rw [if_pos h] at e'
        cases e'
        refine .inr (.inr (.inr ⟨a1, a2, vs, ws, rfl, rfl, s _ _ h1, s _ _ h2, by rw [r1.length, r2.length]; exact h, fun p hp => ?_⟩))
        have gr := upd_grow (o := .lst (vs ++ ws)) s hp
        exact q _ _ _ gr (.lst upd_same ((r1.append r2).mono gr.ff) fun _ z => nomatch z)
      · rw [if_neg h] at e'
        cases e'
    | _ => cases e
  | _ => cases rb <;> cases e
/-- *: ints, a list times an int -/
theorem foldl_app_size (a : Array Nat) : ∀ (k : Nat) (b : Array Nat), ((List.replicate k a).foldl (· ++ ·) b).size = b.size + a.size * k
  | 0, b => by simp
  | k + 1, b => by rw [List.replicate_succ, List.foldl_cons, foldl_app_size a k, Array.size_append, Nat.mul_succ]; omega
theorem strRep_len (a : Str) (k : Nat) : (Str.mk ((List.replicate k a.cps).foldl (· ++ ·) #[])).length = a.length * k := by
  show ((List.replicate k a.cps).foldl (· ++ ·) #[]).size = a.cps.size * k
  rw [foldl_app_size]
  simp
def rMulS : R2 := fun x y H Q => ∃ (a : Str) (k : Int), x = .str a ∧ y = .int k ∧ 2 ≤ k ∧ k < 1000000 ∧ 0 < a.length ∧ a.length * k.toNat ≤ sizeLine ∧ Q (.str ⟨(List.replicate k.toNat a.cps).foldl (· ++ ·) #[]⟩) H
def rMul2 : R2 := fun x y H Q => ((rI CMulW fun i j => .int (i * j)) x y H Q ∨ rRep x y H Q) ∨ rMulS x y H Q
theorem op_mulS : OpR X (binaryOp .Mult) rMulS := fun pins s σ H x y u v Q I r1 r2 h => by
  obtain ⟨a, k, rfl, rfl, h1, h2, h3, h4, q⟩ := h
  obtain ⟨t, rfl⟩ := r1
  obtain ⟨t2, rfl⟩ := r2
  have e1 : ¬ k < 1 := by omega
  have e2 : (k == 1 || a.length == 0) = false := by
    rw [Bool.or_eq_false_iff]
    exact ⟨by simp; omega, by simp; omega⟩
  have hk : 1 ≤ k.toNat := by omega
  have hz : a.length ≤ sizeLine := Nat.le_trans (Nat.le_mul_of_pos_right _ hk) h4
  refine P.mul_str (by simp; omega) (fun _ _ z => ?_) (fun _ _ => ?_) ?_
  · rw [sizeLine_eq] at hz
    have hd : (9223372036854775807 : Int) / 1000000 ≤ (2 ^ 63 - 1) / k := by
      refine Int.le_ediv_of_mul_le (by omega) ?_
      have : (9223372036854775807 : Int) / 1000000 * k ≤ 9223372036854775807 / 1000000 * 1000000 := Int.mul_le_mul_of_nonneg_left (by omega) (by decide)
      omega
    omega
  · unfold Builtin.Str.tooLong
    exact decide_eq_false (by omega)
  · rw [if_neg e1, if_neg (by rw [e2]; exact Bool.false_ne_true)]
    exact ⟨by rw [strRep_len]; exact h4, .str _, H, I.tok _, ⟨_, rfl⟩, q⟩
theorem op_mul2 : OpR X (binaryOp .Mult) rMul2 := (op_mulW.or op_rep).or op_mulS
theorem Reps.rep {F : Hp} {vs : List V} {xs : List PV} (r : Reps c F vs xs) : ∀ k : Nat, Reps c F (List.replicate k vs).flatten (List.replicate k xs).flatten
  | 0 => .nil
  | k + 1 => by
    rw [List.replicate_succ, List.replicate_succ, List.flatten_cons, List.flatten_cons]
    exact r.append (Reps.rep r k)
theorem o_mul : Op2 c pMul rMul2 := fun F H x y a b v Q s ra rb e q => by
  cases ra with
  | int i =>
    cases rb with
    | int j =>
      have e' : (if i.natAbs.log2 + j.natAbs.log2 < 1000000 then some (PV.int (i * j)) else none) = some v := e
      by_cases h : i.natAbs.log2 + j.natAbs.log2 < 1000000
      · rw [if_pos h] at e'
        cases e'
        exact .inl (.inl ⟨i, j, rfl, rfl, h, q _ F H (Grow.refl s) (.int _)⟩)
      · rw [if_neg h] at e'
        cases e'
    | _ => cases e
  | str x =>
    cases rb with
    | int k =>
      have e' : (if 2 ≤ k ∧ k < 1000000 ∧ 0 < x.length ∧ x.length * k.toNat ≤ sizeLine then some (PV.str ⟨(List.replicate k.toNat x.cps).foldl (· ++ ·) #[]⟩) else none) = some v := e
      by_cases h : 2 ≤ k ∧ k < 1000000 ∧ 0 < x.length ∧ x.length * k.toNat ≤ sizeLine
      · rw [if_pos h] at e'
        cases e'
        exact .inr ⟨x, k, rfl, rfl, h.1, h.2.1, h.2.2.1, h.2.2.2, q _ F H (Grow.refl s) (.str _)⟩
      · rw [if_neg h] at e'
        cases e'
    | _ => cases e
  | @lst a1 vs g1 xs h1 r1 t1 =>
    cases rb with
    | int k =>
      have e' : (if k < 9223372036854775808 ∧ -9223372036854775808 ≤ k ∧ xs.length * k.toNat ≤ sizeLine then some (PV.lst none (List.replicate k.toNat xs).flatten) else none) = some v := e
      by_cases h : k < 9223372036854775808 ∧ -9223372036854775808 ≤ k ∧ xs.length * k.toNat ≤ sizeLine
      · rw [if_pos h] at e'
        cases e'
        refine .inl (.inr ⟨a1, k, vs, rfl, rfl, s _ _ h1, by have := h.2.1; omega, by have := h.1; omega, by rw [r1.length]; exact h.2.2, fun p hp => ?_⟩)
        have gr := upd_grow (o := .lst (List.replicate k.toNat vs).flatten) s hp
        exact q _ _ _ gr (.lst upd_same ((r1.rep k.toNat).mono gr.ff) fun _ z => nomatch z)
      · rw [if_neg h] at e'
        cases e'
    | _ => cases e
  | _ => cases rb <;> cases e
end

/-! ### equality -/
mutual
def pvD : PV → Option PyData
  | .non => some .none
  | .bl b => some (.bool b)
  | .int i => some (.int i)
  | .str x => some (.str x)
  | .tup xs => (pvDs xs).map .tuple
  | .lst _ xs => (pvDs xs).map .list
  | .dic _ _ => none
  | .ins _ _ => none
  | .scr _ => none
  | .any => none
def pvDs : List PV → Option (List PyData)
  | [] => some []
  | x :: xs => (pvD x).bind fun d => (pvDs xs).map fun ds => d :: ds
end
def eqD (a b : PV) : Option Bool := match pvD a, pvD b with
  | some d, some e => if SeqAt.shaped d = true ∧ SeqAt.shaped e = true then some (PyData.eqv d e) else none
  | _, _ => none
def eqB : PV → PV → Option Bool
  | .non, .non => some true
  | .bl i, .bl j => some (decide (i = j))
  | .int i, .int j => some (decide (i = j))
  | .str i, .str j => some (decide (i = j))
  | .non, .int _ => some false
  | .int _, .non => some false
  | .non, .str _ => some false
  | .str _, .non => some false
  | .non, .bl _ => some false
  | .bl _, .non => some false
  | .int _, .str _ => some false
  | .str _, .int _ => some false
  | .bl _, .str _ => some false
  | .str _, .bl _ => some false
  | a, b => eqD a b
def pEq (a b : PV) : Option PV := (eqB a b).map .bl
def pNe (a b : PV) : Option PV := (eqB a b).map fun k => .bl (!k)
def rEq2 (K : PySem.W.Frag) : R2 := fun x y H Q => rEq x y H Q ∨ rEqD K x y H Q
def rNe2 (K : PySem.W.Frag) : R2 := fun x y H Q => rNe x y H Q ∨ rNeD K x y H Q
section
variable {c : Cn} {X : Cx}
mutual
theorem pvD_ok {F : Hp} : ∀ {w : V} {v : PV} {d : PyData}, Rep c F w v → pvD v = some d → Dp c.K F w d
  | _, _, _, .non, e => by simp only [pvD] at e; cases e; exact .non
  | _, _, _, .bl b, e => by simp only [pvD] at e; cases e; exact .bl b
  | _, _, _, .int i, e => by simp only [pvD] at e; cases e; exact .int i
  | _, _, _, .str x, e => by simp only [pvD] at e; cases e; exact .str x
  | _, _, _, .tup h r, e => by
    simp only [pvD] at e
    obtain ⟨ds, e1, rfl⟩ := Option.map_eq_some_iff.mp e
    exact .tup (SqT.of h) (pvDs_ok r e1)
  | _, _, _, .lst h r _, e => by
    simp only [pvD] at e
    obtain ⟨ds, e1, rfl⟩ := Option.map_eq_some_iff.mp e
    exact .lst (SqL.of h) (pvDs_ok r e1)
  | _, _, _, .dic _ _ _, e => by simp only [pvD] at e; cases e
  | _, _, _, .ins _ _, e => by simp only [pvD] at e; cases e
  | _, _, _, .scr _, e => by simp only [pvD] at e; cases e
  | _, _, _, .any _, e => by simp only [pvD] at e; cases e
theorem pvDs_ok {F : Hp} : ∀ {ws : List V} {vs : List PV} {ds : List PyData}, Reps c F ws vs → pvDs vs = some ds → DpAll c.K F ws ds
  | _, _, _, .nil, e => by simp only [pvDs] at e; cases e; exact .nil
  | _, _, _, .cons h r, e => by
    simp only [pvDs] at e
    obtain ⟨d, e1, e2⟩ := Option.bind_eq_some_iff.mp e
    obtain ⟨ds, e3, rfl⟩ := Option.map_eq_some_iff.mp e2
    exact .cons (pvD_ok h e1) (pvDs_ok r e3)
end
theorem eqB_ok {F H : Hp} {x y : V} {a b : PV} {k : Bool} (s : Same F H) (ra : Rep c F x a) (rb : Rep c F y b) (e : eqB a b = some k) :
    (scal x y = true ∧ decide (x = y) = k) ∨ ∃ d d', Dp c.K H x d ∧ Dp c.K H y d' ∧ SeqAt.shaped d = true ∧ SeqAt.shaped d' = true ∧ PyData.eqv d d' = k := by
  have go : eqD a b = some k → (scal x y = true ∧ decide (x = y) = k) ∨ ∃ d d', Dp c.K H x d ∧ Dp c.K H y d' ∧ SeqAt.shaped d = true ∧ SeqAt.shaped d' = true ∧ PyData.eqv d d' = k := fun e => by
    unfold eqD at e
    split at e
    · rename_i d d' h1 h2
      split at e
      · rename_i hs
        cases e
        exact .inr ⟨d, d', pvD_ok (ra.mono s) h1, pvD_ok (rb.mono s) h2, hs.1, hs.2, rfl⟩
      · cases e
    · cases e
  cases ra <;> cases rb <;> first
    | exact go e
    | (refine .inl ⟨rfl, ?_⟩; cases e; simp)
theorem o_eq (hk : c.K = X.K) : Op2 c pEq (rEq2 X.K) := fun F H x y a b v Q s ra rb e q => by
  obtain ⟨k, e1, rfl⟩ := Option.map_eq_some_iff.mp e
  have z := q _ F H (Grow.refl s) (.bl k)
  rw [← hk]
  rcases eqB_ok s ra rb e1 with ⟨h1, h2⟩ | ⟨d, d', h1, h2, h3, h4, h5⟩
  · exact .inl ⟨h1, by rw [h2]; exact z⟩
  · exact .inr ⟨d, d', h1, h2, h3, h4, by rw [h5]; exact z⟩
theorem o_ne (hk : c.K = X.K) : Op2 c pNe (rNe2 X.K) := fun F H x y a b v Q s ra rb e q => by
  obtain ⟨k, e1, rfl⟩ := Option.map_eq_some_iff.mp e
  have z := q _ F H (Grow.refl s) (.bl (!k))
  rw [← hk]
  rcases eqB_ok s ra rb e1 with ⟨h1, h2⟩ | ⟨d, d', h1, h2, h3, h4, h5⟩
  · exact .inl ⟨h1, by rw [h2]; exact z⟩
  · exact .inr ⟨d, d', h1, h2, h3, h4, by rw [h5]; exact z⟩
theorem op_eq2 (hu : X.A.units + 64 < cLine) : OpR X (compareOp .Eq) (rEq2 X.K) := op_eq.or (op_eqD hu)
theorem op_ne2 (hu : X.A.units + 64 < cLine) : OpR X (compareOp .NotEq) (rNe2 X.K) := op_ne.or (op_neD hu)
end

/-! ### is -/
def pIs : PV → PV → Option PV
  | .any, _ => none
  | a, .non => some (.bl (match a with | .non => true | _ => false))
  | .bl i, .bl j => some (.bl (decide (i = j)))
  | _, _ => none
def pIsNot : PV → PV → Option PV
  | .any, _ => none
  | a, .non => some (.bl (match a with | .non => false | _ => true))
  | .bl i, .bl j => some (.bl (!decide (i = j)))
  | _, _ => none
section
variable {c : Cn} {X : Cx}
def rIs2 : R2 := fun x y H Q => (y = .non ∧ Q (.bl (decide (x = .non))) H) ∨ rIsB x y H Q
def rIsNot2 : R2 := fun x y H Q => (y = .non ∧ Q (.bl (!decide (x = .non))) H) ∨ rNotB x y H Q
theorem op_is2 : OpR X (compareOp .Is) rIs2 := op_isN.or op_isBl
theorem op_isNot2 : OpR X (compareOp .IsNot) rIsNot2 := op_notN.or op_notBl
theorem o_is : Op2 c pIs rIs2 := fun F H x y a b v Q s ra rb e q => by
  cases rb with
  | non =>
    refine .inl ⟨rfl, ?_⟩
    cases ra <;> first | (cases e; exact q _ F H (Grow.refl s) (.bl _)) | cases e
  | bl j =>
    cases ra with
    | bl i => cases e; exact .inr ⟨i, j, rfl, rfl, q _ F H (Grow.refl s) (.bl _)⟩
    | _ => cases e
  | _ => cases ra <;> cases e
theorem o_isNot : Op2 c pIsNot rIsNot2 := fun F H x y a b v Q s ra rb e q => by
  cases rb with
  | non =>
    refine .inl ⟨rfl, ?_⟩
    cases ra <;> first | (cases e; exact q _ F H (Grow.refl s) (.bl _)) | cases e
  | bl j =>
    cases ra with
    | bl i => cases e; exact .inr ⟨i, j, rfl, rfl, q _ F H (Grow.refl s) (.bl _)⟩
    | _ => cases e
  | _ => cases ra <;> cases e
end

/-! ### len, abs, int, max, min, sum, all, any, tuple, list, str -/
def pLen : PV → Option PV
  | .str x => if x.length ≤ sizeLine then some (.int x.length) else none
  | .tup xs => some (.int xs.length)
  | .lst _ xs => some (.int xs.length)
  | .dic _ xs => some (.int xs.length)
  | .scr ns => some (.int ns.length)
  | _ => none
def pAbs : PV → Option PV
  | .int i => some (.int (if i < 0 then -i else i))
  | _ => none
def pInt : PV → Option PV
  | .int i => some (.int i)
  | .bl b => some (.int (if b then 1 else 0))
  | .str x => if x.length ≤ 640 then (PySem.intText? x).map .int else none
  | _ => none
def pMax2 : PV → PV → Option PV
  | .int i, .int j => some (.int (if j > i then j else i))
  | _, _ => none
def pMin2 : PV → PV → Option PV
  | .int i, .int j => some (.int (if j < i then j else i))
  | _, _ => none
def intsOf : List PV → Option (List Int)
  | [] => some []
  | .int i :: xs => (intsOf xs).map fun ns => i :: ns
  | _ :: _ => none
def blsOf : List PV → Option (List Bool)
  | [] => some []
  | .bl i :: xs => (blsOf xs).map fun ns => i :: ns
  | _ :: _ => none
def strsOf : List PV → Option (List Str)
  | [] => some []
  | .str i :: xs => (strsOf xs).map fun ns => i :: ns
  | _ :: _ => none
def pSum : PV → Option PV
  | .lst _ xs => (intsOf xs).map fun ns => .int ns.sum
  | _ => none
def pAll : PV → Option PV
  | .lst _ xs => (blsOf xs).map fun ns => .bl (ns.all id)
  | _ => none
def pAny : PV → Option PV
  | .lst _ xs => (blsOf xs).map fun ns => .bl (ns.any id)
  | _ => none
def pTuple : PV → Option PV
  | .lst _ xs => some (.tup xs)
  | .tup xs => some (.tup xs)
  | _ => none
def lList : PV → Option (List PV)
  | .lst _ xs => some xs
  | .tup xs => some xs
  | .scr ns => some (ns.map .int)
  | _ => none
def pStr : PV → Option PV
  | .int i => if i.natAbs.log2 < 1920 then some (.str (toString i)) else none
  | _ => none
section
variable {c : Cn} {X : Cx}
theorem intsOf_ok {F : Hp} : ∀ {ws : List V} {vs : List PV} {ns : List Int}, Reps c F ws vs → intsOf vs = some ns → ws = ns.map V.int
  | _, _, _, .nil, e => by cases e; rfl
  | _, _, _, .cons h r, e => by
    cases h with
    | int i =>
      obtain ⟨ms, e1, rfl⟩ := Option.map_eq_some_iff.mp e
      rw [intsOf_ok r e1]
      rfl
    | _ => cases e
theorem blsOf_ok {F : Hp} : ∀ {ws : List V} {vs : List PV} {ns : List Bool}, Reps c F ws vs → blsOf vs = some ns → ws = ns.map V.bl
  | _, _, _, .nil, e => by cases e; rfl
  | _, _, _, .cons h r, e => by
    cases h with
    | bl i =>
      obtain ⟨ms, e1, rfl⟩ := Option.map_eq_some_iff.mp e
      rw [blsOf_ok r e1]
      rfl
    | _ => cases e
theorem strsOf_ok {F : Hp} : ∀ {ws : List V} {vs : List PV} {ns : List Str}, Reps c F ws vs → strsOf vs = some ns → ws = ns.map V.str
  | _, _, _, .nil, e => by cases e; rfl
  | _, _, _, .cons h r, e => by
    cases h with
    | str i =>
      obtain ⟨ms, e1, rfl⟩ := Option.map_eq_some_iff.mp e
      rw [strsOf_ok r e1]
      rfl
    | _ => cases e
def rLen (K : PySem.W.Frag) : List V → Hp → VK → Prop := fun xs H Q => (∃ x n, xs = [x] ∧ LenV K x H n ∧ Q (.int n) H) ∨ ∃ d kvs, xs = [.ref d] ∧ Rd H d (.dK kvs) ∧ Q (.int kvs.length) H
theorem call_len2 : CallR X (.builtin "len") (rLen X.K) := call_len.or fun pins s σ H xs us Q I r h => by
  obtain ⟨d, kvs, rfl, e, q⟩ := h
  rw [Vals.ref1 r]
  exact d_len I e fun t s' J => ⟨.int kvs.length, H, J, ⟨t, rfl⟩, q⟩
theorem o_len (hk : c.K = X.K) : Op1 c pLen fun x => rLen X.K [x] := fun F H x a v Q s ra e q => by
  rw [← hk]
  cases ra with
  | str y =>
    have e' : (if y.length ≤ sizeLine then some (PV.int y.length) else none) = some v := e
    by_cases h : y.length ≤ sizeLine
    · rw [if_pos h] at e'
      cases e'
      exact .inl ⟨_, _, rfl, ⟨h, rfl⟩, q _ F H (Grow.refl s) (.int _)⟩
    · rw [if_neg h] at e'
      cases e'
  | tup h r => cases e; exact .inl ⟨_, _, rfl, .inr ⟨_, SqT.of (s _ _ h), rfl⟩, by rw [r.length]; exact q _ F H (Grow.refl s) (.int _)⟩
  | lst h r _ => cases e; exact .inl ⟨_, _, rfl, .inl ⟨_, SqL.of (s _ _ h), rfl⟩, by rw [r.length]; exact q _ F H (Grow.refl s) (.int _)⟩
  | scr h => cases e; exact .inl ⟨_, _, rfl, .inl ⟨_, s.seq h, rfl⟩, by rw [List.length_map]; exact q _ F H (Grow.refl s) (.int _)⟩
  | dic h r _ => cases e; exact .inr ⟨_, _, rfl, .inl (s _ _ h), by rw [r.length]; exact q _ F H (Grow.refl s) (.int _)⟩
  | _ => cases e
theorem o_abs : Op1 c pAbs fun x => (fun xs H Q => ∃ i, xs = [V.int i] ∧ Q (.int (if i < 0 then -i else i)) H) [x] := fun F H x a v Q s ra e q => by
  cases ra with
  | int i => cases e; exact ⟨i, rfl, q _ F H (Grow.refl s) (.int _)⟩
  | _ => cases e
def rInt : List V → Hp → VK → Prop := fun xs H Q => ((∃ i, xs = [V.int i] ∧ Q (.int i) H) ∨ ∃ k, xs = [V.bl k] ∧ Q (.int (if k then 1 else 0)) H) ∨ ∃ a n, xs = [V.str a] ∧ PySem.intText? a = some n ∧ a.length ≤ 640 ∧ Q (.int n) H
theorem call_intS : CallR X (.type "int") rInt := call_int1.or call_int_str
theorem o_int : Op1 c pInt fun x => rInt [x] := fun F H x a v Q s ra e q => by
  cases ra with
  | int i => cases e; exact .inl (.inl ⟨i, rfl, q _ F H (Grow.refl s) (.int _)⟩)
  | bl i => cases e; exact .inl (.inr ⟨i, rfl, q _ F H (Grow.refl s) (.int _)⟩)
  | str y =>
    have e' : (if y.length ≤ 640 then (PySem.intText? y).map PV.int else none) = some v := e
    by_cases h : y.length ≤ 640
    · rw [if_pos h] at e'
      obtain ⟨n, e1, rfl⟩ := Option.map_eq_some_iff.mp e'
      exact .inr ⟨y, n, rfl, e1, h, q _ F H (Grow.refl s) (.int _)⟩
    · rw [if_neg h] at e'; cases e'
  | _ => cases e
theorem o_max2 : Op2 c pMax2 fun x y => (fun xs H Q => ∃ i j, xs = [V.int i, V.int j] ∧ Q (.int (if j > i then j else i)) H) [x, y] := of2I (fun F H i j v Q s e q => by
  cases e
  exact ⟨i, j, rfl, q _ F H (Grow.refl s) (.int _)⟩) fun a b v e => by
  unfold pMax2 at e
  split at e
  · exact ⟨_, _, rfl, rfl⟩
  · cases e
theorem o_min2 : Op2 c pMin2 fun x y => (fun xs H Q => ∃ i j, xs = [V.int i, V.int j] ∧ Q (.int (if j < i then j else i)) H) [x, y] := of2I (fun F H i j v Q s e q => by
  cases e
  exact ⟨i, j, rfl, q _ F H (Grow.refl s) (.int _)⟩) fun a b v e => by
  unfold pMin2 at e
  split at e
  · exact ⟨_, _, rfl, rfl⟩
  · cases e
theorem o_sum (hk : c.K = X.K) : Op1 c pSum fun x => rSum X.K [x] := fun F H x a v Q s ra e q => by
  cases ra with
  | lst h r _ =>
    obtain ⟨ns, e1, rfl⟩ := Option.map_eq_some_iff.mp e
    have ew := intsOf_ok r e1
    subst ew
    exact ⟨_, ns, rfl, SqL.of (s _ _ h), q _ F H (Grow.refl s) (.int _)⟩
  | _ => cases e
theorem o_all (hk : c.K = X.K) : Op1 c pAll fun x => rAll X.K [x] := fun F H x a v Q s ra e q => by
  cases ra with
  | lst h r _ =>
    obtain ⟨ns, e1, rfl⟩ := Option.map_eq_some_iff.mp e
    have ew := blsOf_ok r e1
    subst ew
    exact ⟨_, ns, rfl, SqL.of (s _ _ h), q _ F H (Grow.refl s) (.bl _)⟩
  | _ => cases e
theorem o_any (hk : c.K = X.K) : Op1 c pAny fun x => rAny X.K [x] := fun F H x a v Q s ra e q => by
  cases ra with
  | lst h r _ =>
    obtain ⟨ns, e1, rfl⟩ := Option.map_eq_some_iff.mp e
    have ew := blsOf_ok r e1
    subst ew
    exact ⟨_, ns, rfl, SqL.of (s _ _ h), q _ F H (Grow.refl s) (.bl _)⟩
  | _ => cases e
def rTupOf (K : PySem.W.Frag) : List V → Hp → VK → Prop := fun xs H Q => ∃ p ys, xs = [.ref p] ∧ ((SqL K H p ys ∧ ∀ l, H l = none → Q (.ref l) (upd H l (.tup ys))) ∨ (SqT K H p ys ∧ Q (.ref p) H))
theorem call_tuple2 : CallR X (.type "tuple") (rTupOf X.K) := call_tuple_of
theorem o_tuple (hk : c.K = X.K) : Op1 c pTuple fun x => rTupOf X.K [x] := fun F H x a v Q s ra e q => by
  cases ra with
  | @lst a vs g xs h r _ =>
    cases e
    refine ⟨_, _, rfl, .inl ⟨SqL.of (s _ _ h), fun p hp => ?_⟩⟩
    have gr := upd_grow (o := .tup vs) s hp
    exact q _ _ _ gr (.tup upd_same (r.mono gr.ff))
  | tup h r => cases e; exact ⟨_, _, rfl, .inr ⟨SqT.of (s _ _ h), q _ F H (Grow.refl s) (.tup h r)⟩⟩
  | _ => cases e
def rLstOf (K : PySem.W.Frag) : List V → Hp → VK → Prop := fun xs H Q => ∃ p ys, xs = [.ref p] ∧ (SqL K H p ys ∨ SqT K H p ys) ∧ ∀ l, H l = none → Q (.ref l) (upd H l (.lst ys))
theorem call_list2 : CallR X (.type "list") (rLstOf X.K) := call_list_of
theorem o_list (hk : c.K = X.K) : Ol1 c lList fun x => rLstOf X.K [x] := fun F H x a v Q s ra e q => by
  rw [← hk]
  cases ra with
  | lst h r _ => cases e; exact ⟨_, _, rfl, .inl (SqL.of (s _ _ h)), fun p hp => q _ r p hp⟩
  | tup h r => cases e; exact ⟨_, _, rfl, .inr (SqT.of (s _ _ h)), fun p hp => q _ r p hp⟩
  | scr h => cases e; exact ⟨_, _, rfl, .inl (s.seq h), fun p hp => q _ (Reps.ofInts _) p hp⟩
  | _ => cases e
theorem o_str : Op1 c pStr fun x => (fun xs H Q => ∃ i, xs = [V.int i] ∧ i.natAbs.log2 < 1920 ∧ Q (.str (toString i)) H) [x] := fun F H x a v Q s ra e q => by
  cases ra with
  | int i =>
    have e' : (if i.natAbs.log2 < 1920 then some (PV.str (toString i)) else none) = some v := e
    by_cases h : i.natAbs.log2 < 1920
    · rw [if_pos h] at e'
      cases e'
      exact ⟨i, rfl, h, q _ F H (Grow.refl s) (.str _)⟩
    · rw [if_neg h] at e'
      cases e'
  | _ => cases e
end

/-! ### subscripts, slices -/
def valP (kvs : List (Key × PV)) (k : Key) : Option PV := (kvs.find? fun kv => decide (kv.1 = k)).map (·.2)
def keyP : PV → Option Key
  | .int i => some (.inl i)
  | .str x => some (.inr x)
  | _ => none
def pIx : PV → PV → Option PV
  | .tup xs, .int i => atI xs i
  | .lst _ xs, .int i => atI xs i
  | .scr ns, .int i => (atI ns i).map .int
  | .str z, .int i => if z.length ≤ sizeLine then (atI z.cps.toList i).map fun k => .str ⟨#[k]⟩ else none
  | .dic _ kvs, k => (keyP k).bind fun k => valP kvs k
  | _, _ => none
def cutP {α : Type} (xs : List α) (lo hi : Option Int) : List α := (xs.drop (HT.sIx xs.length 0 lo)).take (HT.sIx xs.length xs.length hi - HT.sIx xs.length 0 lo)
def pSl (x : PV) (lo hi : Option Int) : Option PV := match x with
  | .tup xs => some (.tup (cutP xs lo hi))
  | .lst _ xs => some (.lst none (cutP xs lo hi))
  | .scr ns => some (.lst none ((cutP ns lo hi).map .int))
  | .str z => if z.length ≤ sizeLine then some (.str (Txt.slice z lo hi)) else none
  | _ => none
def lSlice (x : PV) (lo hi : Option Int) : Option (List PV) := match x with
  | .lst _ xs => some (cutP xs lo hi)
  | .scr ns => some ((cutP ns lo hi).map .int)
  | _ => none
section
variable {c : Cn} {X : Cx}
theorem atI_len {α β : Type} {xs : List α} {ys : List β} {i : Int} {y : β} (e : ys.length = xs.length) (h : atI ys i = some y) : ∃ j, ixN xs.length i = some j ∧ ys[j]? = some y := by
  unfold atI at h
  obtain ⟨j, h1, h2⟩ := Option.bind_eq_some_iff.mp h
  exact ⟨j, by rw [← e]; exact h1, h2⟩
theorem Reps.atI {F : Hp} {vs : List V} {xs : List PV} {i : Int} {x : PV} (r : Reps c F vs xs) (h : atI xs i = some x) : ∃ v, L2.atI vs i = some v ∧ Rep c F v x := by
  obtain ⟨j, h1, h2⟩ := atI_len (xs := vs) r.length.symm h
  obtain ⟨v, h3, h4⟩ := r.get h2
  exact ⟨v, by unfold L2.atI; rw [h1]; exact h3, h4⟩
theorem RepD.val {F : Hp} {k : Key} {x : PV} : ∀ {vs : List (Key × V)} {xs : List (Key × PV)}, RepD c F vs xs → valP xs k = some x → ∃ v, valV vs k = some v ∧ Rep c F v x
  | _, _, .nil, e => by cases e
  | _, _, .cons (k := k') h r, e => by
    unfold valP at e
    by_cases q : k' = k
    · rw [List.find?_cons_of_pos (by simp [q])] at e
      cases e
      exact ⟨_, valV_pos q, h⟩
    · rw [List.find?_cons_of_neg (by simp [q])] at e
      obtain ⟨v, h1, h2⟩ := RepD.val r e
      exact ⟨v, by rw [valV_neg q]; exact h1, h2⟩
theorem keyP_ok {F : Hp} {w : V} {v : PV} {k : Key} (r : Rep c F w v) (e : keyP v = some k) : w = kV k := by
  cases r <;> first | (cases e; rfl) | cases e
def rIxD2 : R2 := fun x y H Q => ∃ a v, x = .ref a ∧ DGet H a y (some v) ∧ Q v H
theorem ix_dict (hu : X.A.units + 1 < cLine) : IxR X rIxD2 := by
  intro value slice pins s σ H x y v u Q I rx ry h
  obtain ⟨a, z, rfl, g, q⟩ := h
  obtain rfl : v = Value.ref a := rx
  exact fun hs => tail_any (dict_typeIs I g) PySem.F.slot_dict_getitem.lookup (d_getItem hu I g ry fun w' s' J r => ⟨z, H, J, r, q⟩) hs
def rIx4 (K : PySem.W.Frag) : R2 := fun x y H Q => rIx K x y H Q ∨ rIxD2 x y H Q
theorem ix_4 (hu : X.A.units + 1 < cLine) : IxR X (rIx4 X.K) := ix_seq.or (ix_dict hu)
theorem atI_map {α β : Type} (f : α → β) {xs : List α} {i : Int} {x : α} (h : L2.atI xs i = some x) : L2.atI (xs.map f) i = some (f x) := by
  unfold L2.atI at h ⊢
  obtain ⟨j, h1, h2⟩ := Option.bind_eq_some_iff.mp h
  rw [List.length_map, h1]
  show (xs.map f)[j]? = _
  rw [List.getElem?_map, h2]
  rfl
theorem o_ix (hk : c.K = X.K) : Op2 c pIx (rIx4 X.K) := fun F H x y a b v Q s ra rb e q => by
  rw [← hk]
  cases ra with
  | tup h r =>
    cases rb with
    | int i =>
      obtain ⟨w, h1, h2⟩ := r.atI (show L2.atI _ i = some v from e)
      exact .inl (.inr (.inl ⟨_, _, i, w, rfl, rfl, SqT.of (s _ _ h), h1, q _ F H (Grow.refl s) h2⟩))
    | _ => cases e
  | lst h r _ =>
    cases rb with
    | int i =>
      obtain ⟨w, h1, h2⟩ := r.atI (show L2.atI _ i = some v from e)
      exact .inl (.inl ⟨_, _, i, w, rfl, rfl, SqL.of (s _ _ h), h1, q _ F H (Grow.refl s) h2⟩)
    | _ => cases e
  | @scr a ns h =>
    cases rb with
    | int i =>
      obtain ⟨n, h1, rfl⟩ := Option.map_eq_some_iff.mp (show (L2.atI ns i).map PV.int = some v from e)
      exact .inl (.inl ⟨_, _, i, _, rfl, rfl, s.seq h, atI_map V.int h1, q _ F H (Grow.refl s) (.int _)⟩)
    | _ => cases e
  | str z =>
    cases rb with
    | int i =>
      have e' : (if z.length ≤ sizeLine then (L2.atI z.cps.toList i).map fun k => PV.str ⟨#[k]⟩ else none) = some v := e
      by_cases hz : z.length ≤ sizeLine
      · rw [if_pos hz] at e'
        obtain ⟨n, h1, rfl⟩ := Option.map_eq_some_iff.mp e'
        exact .inl (.inr (.inr ⟨z, i, n, rfl, rfl, hz, h1, q _ F H (Grow.refl s) (.str _)⟩))
      · rw [if_neg hz] at e'
        cases e'
    | _ => cases e
  | @dic a vs g xs h r _ =>
    obtain ⟨k, h1, h2⟩ := Option.bind_eq_some_iff.mp (show (keyP b).bind (fun k => valP xs k) = some v from by cases b <;> exact e)
    obtain ⟨w, h3, h4⟩ := r.val h2
    have ek := keyP_ok rb h1
    subst ek
    refine .inr ⟨_, w, rfl, ?_, q _ F H (Grow.refl s) h4⟩
    rw [← h3]
    exact DGet.k (s _ _ h)
  | _ => cases rb <;> cases e
def rSl3 (K : PySem.W.Frag) : V → Option Int → Option Int → Hp → VK → Prop := fun x lo hi H Q => C8.rSlX x lo hi H Q ∨ (rSlA K x lo hi H Q ∨ rSlL K x lo hi H Q)
theorem sl_3 : SlR X (rSl3 X.K) := C8.sl_txt.or (sl_tupA.or sl_list)
theorem Reps.cut {F : Hp} {vs : List V} {xs : List PV} (r : Reps c F vs xs) (lo hi : Option Int) : Reps c F (cutV vs lo hi) (cutP xs lo hi) := by
  unfold cutV cutP
  rw [r.length]
  exact (r.drop _).take _
theorem cut_ints (ns : List Int) (lo hi : Option Int) : cutV (ns.map V.int) lo hi = (cutP ns lo hi).map V.int := by
  unfold cutV cutP
  rw [List.length_map, List.map_take, List.map_drop]
theorem cutP_whole {α : Type} {xs : List α} {lo hi : Option Int} (h : HT.sIx xs.length 0 lo = 0 ∧ HT.sIx xs.length xs.length hi = xs.length) : cutP xs lo hi = xs := by
  unfold cutP
  rw [h.1, h.2]
  simp
theorem o_sl (hk : c.K = X.K) : OpS c pSl (rSl3 X.K) := fun lo hi F H x a v Q s ra e q => by
  rw [← hk]
  cases ra with
  | @tup a vs xs h r =>
    cases e
    refine .inr (.inl ⟨a, vs, rfl, SqT.of (s _ _ h), fun z => ?_, fun _ p hp => ?_⟩)
    · rw [r.length] at z
      rw [cutP_whole z] at q
      exact q _ F H (Grow.refl s) (.tup h r)
    · have gr := upd_grow (o := .tup (cutV vs lo hi)) s hp
      exact q _ _ _ gr (.tup upd_same ((r.cut lo hi).mono gr.ff))
  | @lst a vs g xs h r _ =>
    cases e
    refine .inr (.inr ⟨a, vs, rfl, SqL.of (s _ _ h), fun p hp => ?_⟩)
    have gr := upd_grow (o := .lst (cutV vs lo hi)) s hp
    exact q _ _ _ gr (.lst upd_same ((r.cut lo hi).mono gr.ff) fun _ z => nomatch z)
  | @scr a ns h =>
    cases e
    refine .inr (.inr ⟨a, _, rfl, s.seq h, fun p hp => ?_⟩)
    have gr := upd_grow (o := .lst (cutV (ns.map V.int) lo hi)) s hp
    exact q _ _ _ gr (.lst upd_same (by rw [cut_ints]; exact Reps.ofInts _) fun _ z => nomatch z)
  | str z =>
    have e' : (if z.length ≤ sizeLine then some (PV.str (Txt.slice z lo hi)) else none) = some v := e
    by_cases hz : z.length ≤ sizeLine
    · rw [if_pos hz] at e'
      cases e'
      exact .inl ⟨z, rfl, hz, q _ F H (Grow.refl s) (.str _)⟩
    · rw [if_neg hz] at e'
      cases e'
  | _ => cases e
theorem o_slL (hk : c.K = X.K) : OlS c lSlice (rSlL X.K) := fun lo hi F H x a v Q s ra e q => by
  rw [← hk]
  cases ra with
  | @lst a vs g xs h r _ =>
    cases e
    exact ⟨a, vs, rfl, SqL.of (s _ _ h), fun p hp => q _ (r.cut lo hi) p hp⟩
  | @scr a ns h =>
    cases e
    exact ⟨a, _, rfl, s.seq h, fun p hp => q _ (by rw [cut_ints]; exact Reps.ofInts _) p hp⟩
  | _ => cases e
end

/-! ### isinstance -/
def tyN : PV → Option String
  | .non => some "NoneType"
  | .bl _ => some "bool"
  | .int _ => some "int"
  | .str _ => some "str"
  | .tup _ => some "tuple"
  | .lst _ _ => some "list"
  | .dic _ _ => some "dict"
  | _ => none
def isT (T : String) (v : PV) : Option Bool := (tyN v).bind fun t => kitB t T
def pIsi (T : String) (v : PV) : Option PV := (isT T v).map .bl
def anyT (v : PV) : List String → Option Bool
  | [] => some false
  | T :: Ts => (isT T v).bind fun b => if b = true then some true else anyT v Ts
def pIsiT (Ts : List String) (v : PV) : Option PV := (anyT v Ts).map .bl
section
variable {c : Cn} {X : Cx} {W : WX} {a : Expr} {pos : Pos} {ga : GE}
theorem tyN_ok {F H : Hp} {x : V} {v : PV} {t : String} (s : Same F H) (r : Rep c F x v) (e : tyN v = some t) : TyOf c.K H x (.type t) := by
  cases r with
  | non => cases e; exact .non
  | bl b => cases e; exact .bl b
  | int i => cases e; exact .int i
  | str y => cases e; exact .str y
  | tup h r => cases e; exact .tup (s _ _ h)
  | lst h r _ => cases e; exact .lst (s _ _ h)
  | dic h r _ => cases e; exact .dK (s _ _ h)
  | _ => cases e
/-- isinstance(e, T), T a built-in class by its name -/
theorem ve_isi {x T : Str} {U : String} {p p2 : Pos} (hk : c.K = X.K) (hg : Gl X x) (hm : X.mg x = none) (hv : bootBuiltins x = some (.builtin "isinstance")) (ha : PE X a (tE c W ga)) (hgT : Gl X T) (hmT : X.mg T = none) (hvT : bootBuiltins T = some (.type U))
    (hn : x ≠ "__name__" := by decide) (hdb : (x == ("__debug__" : Str)) = false := by decide) (hnT : T ≠ "__name__" := by decide) (hdT : (T == ("__debug__" : Str)) = false := by decide)
    (he : starEach [a, .Name T p2] X.env = (false, eval a X.env) :: starEach [.Name T p2] X.env := by rfl) (he2 : starEach [.Name T p2] X.env = (false, eval (.Name T p2) X.env) :: starEach [] X.env := by rfl)
    (hpl : (backTo pos (starEach [.Name T p2] X.env)).any (·.1) = false := by rfl) : PE X (.Call (.Name x p) [a, .Name T p2] [] pos) (tE c W (eOp1 (pIsi U) ga)) :=
  imp_PE (pe_callB call_isi hg hm hv (pa_cons ha (pa_cons (pe_bltn (v := .ty U) hgT hmT hvT rfl hnT hdT) pa_nil he2) he) hn hdb he hpl) fun σ H Q ⟨ρ, F, er, z⟩ => by
    refine tE_bind er z fun v ρ1 w F1 H1 st rep h1 => ?_
    obtain ⟨u, e, h1⟩ := lift_run h1
    obtain ⟨b, e1, rfl⟩ := Option.map_eq_some_iff.mp e
    obtain ⟨t, e2, e3⟩ := Option.bind_eq_some_iff.mp e1
    refine ⟨w, .ty U, .type t, .type U, b, rfl, .ty U, .base ?_, kit_ty e3, h1 _ F1 H1 st (.bl b)⟩
    rw [← hk]
    exact tyN_ok st.2.sub rep e2
end
end VL

set_option Elab.async false
set_option linter.all false
set_option maxRecDepth 100000
set_option maxHeartbeats 1000000
/-! VL, part 4: in, methods, calls, what is walked, comprehensions. -/
namespace VL
open PySem PySem.Spec PyProof.Rows L2

/-! ### in -/
def flatP : PV → Bool
  | .non => true
  | .bl _ => true
  | .int _ => true
  | .str _ => true
  | _ => false
def eqF : PV → PV → Bool
  | .non, .non => true
  | .bl a, .bl b => a == b
  | .bl a, .int b => (if a then 1 else 0) == b
  | .int a, .bl b => a == (if b then 1 else 0)
  | .int a, .int b => a == b
  | .str a, .str b => a == b
  | _, _ => false
def inS (x z : Str) : Option Bool := match x.cps.toList with
  | [k] => some (decide (k ∈ z.cps.toList))
  | _ => none
def inD (a : PV) (xs : List PV) : Option Bool := match pvD a, pvDs xs with
  | some d, some ds => if SeqAt.shaped d = true ∧ SeqAt.shaped (.list ds) = true then some (ds.any fun z => PyData.eqv z d) else none
  | _, _ => none
def inB : PV → PV → Option Bool
  | .str x, .str z => inS x z
  | a, .lst _ xs => if flatP a = true ∧ xs.all flatP = true then some (xs.any fun y => eqF y a) else inD a xs
  | a, .tup xs => if flatP a = true ∧ xs.all flatP = true then some (xs.any fun y => eqF y a) else none
  | a, .dic _ kvs => (keyP a).map fun k => (valP kvs k).isSome
  | _, _ => none
def pIn (a b : PV) : Option PV := (inB a b).map .bl
def pNotIn (a b : PV) : Option PV := (inB a b).map fun k => .bl (!k)
section
variable {c : Cn} {X : Cx}
theorem flatP_ok {F : Hp} {w : V} {v : PV} (r : Rep c F w v) (e : flatP v = true) : flatV w = true := by
  cases r <;> first | rfl | cases e
theorem flatP_all {F : Hp} : ∀ {ws : List V} {vs : List PV}, Reps c F ws vs → vs.all flatP = true → ws.all flatV = true
  | _, _, .nil, _ => rfl
  | _, _, .cons h r, e => by
    rw [List.all_cons, Bool.and_eq_true] at e ⊢
    exact ⟨flatP_ok h e.1, flatP_all r e.2⟩
theorem eqF_ok {F : Hp} {w u : V} {v z : PV} (r : Rep c F w v) (r' : Rep c F u z) (f : flatP v = true) (f' : flatP z = true) : eqV w u = eqF v z := by
  cases r <;> cases r' <;> first
    | exact absurd (show false = true from f) Bool.false_ne_true
    | exact absurd (show false = true from f') Bool.false_ne_true
    | rfl
theorem eqF_any {F : Hp} {u : V} {z : PV} (r' : Rep c F u z) (f' : flatP z = true) : ∀ {ws : List V} {vs : List PV}, Reps c F ws vs → vs.all flatP = true → inV u ws = vs.any fun y => eqF y z
  | _, _, .nil, _ => rfl
  | _, _, .cons h r, e => by
    rw [List.all_cons, Bool.and_eq_true] at e
    show (eqV _ u || inV u _) = _
    rw [List.any_cons, eqF_ok h r' e.1 f', eqF_any r' f' r e.2]
/-- in: a sign in a text, flat things in a list | a tuple, data in a list, a key in a dict -/
def rInA (K : PySem.W.Frag) (f : Bool → Bool) : R2 := fun x y H Q => (∃ (k : Nat) (z : Str), x = .str ⟨#[k]⟩ ∧ y = .str z ∧ Q (.bl (f (decide (k ∈ z.cps.toList)))) H) ∨
  ((∃ p xs, y = .ref p ∧ (SqL K H p xs ∨ SqT K H p xs) ∧ flatV x = true ∧ xs.all flatV = true ∧ Q (.bl (f (inV x xs))) H) ∨
  ((∃ d ds, Dp K H x d ∧ Dp K H y (.list ds) ∧ SeqAt.shaped d = true ∧ SeqAt.shaped (.list ds) = true ∧ Q (.bl (f (ds.any fun z => PyData.eqv z d))) H) ∨
  ∃ a o, y = .ref a ∧ DGet H a x o ∧ Q (.bl (f o.isSome)) H))
theorem op_inA (hu : X.A.units + 65 < cLine) : OpR X (compareOp .In) (rInA X.K id) := op_in_sign.or (op_in_seq.or ((op_inD hu).or (by
  intro pins s σ H x y v u Q I rx ry h
  obtain ⟨a, o, rfl, g, q⟩ := h
  obtain rfl : u = Value.ref a := ry
  exact d_in (by omega) I g rx fun s' J => ⟨.bl _, H, J, rfl, q⟩)))
theorem op_notInA (hu : X.A.units + 65 < cLine) : OpR X (compareOp .NotIn) (rInA X.K (!·)) := op_notIn_sign.or (op_notIn_seq.or ((op_notInD hu).or (by
  intro pins s σ H x y v u Q I rx ry h
  obtain ⟨a, o, rfl, g, q⟩ := h
  obtain rfl : u = Value.ref a := ry
  exact d_notIn (by omega) I g rx fun s' J => ⟨.bl _, H, J, rfl, q⟩)))
theorem str_one {x : Str} {k : Nat} (h : x.cps.toList = [k]) : x = ⟨#[k]⟩ := by
  obtain ⟨a⟩ := x
  have e : a = #[k] := by
    apply Array.ext'
    rw [h]
  rw [e]
theorem RepD.isSome {F : Hp} {z : Key} : ∀ {vs : List (Key × V)} {xs : List (Key × PV)}, RepD c F vs xs → (valV vs z).isSome = (valP xs z).isSome
  | _, _, .nil => rfl
  | _, _, .cons (k := k') h r => by
    by_cases q : k' = z
    · rw [valV_pos q]
      unfold valP
      rw [List.find?_cons_of_pos (by simp [q])]
      rfl
    · rw [valV_neg q, RepD.isSome r]
      unfold valP
      rw [List.find?_cons_of_neg (by simp [q])]
theorem inB_ok {f : Bool → Bool} {F H : Hp} {x y : V} {a b : PV} {k : Bool} {Q : VK} (s : Same F H) (ra : Rep c F x a) (rb : Rep c F y b) (e : inB a b = some k) (q : Q (.bl (f k)) H) : rInA c.K f x y H Q := by
  have list : ∀ {p : Addr} {vs : List V} {g : Option Addr} {xs : List PV}, F p = some (.lst vs) → Reps c F vs xs → (if flatP a = true ∧ xs.all flatP = true then some (xs.any fun y => eqF y a) else inD a xs) = some k → rInA c.K f x (.ref p) H Q := by
    intro p vs g xs h r e
    by_cases hf : flatP a = true ∧ xs.all flatP = true
    · rw [if_pos hf] at e
      cases e
      exact .inr (.inl ⟨p, vs, rfl, .inl (SqL.of (s _ _ h)), flatP_ok ra hf.1, flatP_all r hf.2, by rw [eqF_any ra hf.1 r hf.2]; exact q⟩)
    · rw [if_neg hf] at e
      unfold inD at e
      split at e
      · rename_i d ds h1 h2
        split at e
        · rename_i hs
          cases e
          exact .inr (.inr (.inl ⟨d, ds, pvD_ok (ra.mono s) h1, .lst (SqL.of (s _ _ h)) (pvDs_ok (r.mono s) h2), hs.1, hs.2, q⟩))
        · cases e
      · cases e
  have tup : ∀ {p : Addr} {vs : List V} {xs : List PV}, F p = some (.tup vs) → Reps c F vs xs → (if flatP a = true ∧ xs.all flatP = true then some (xs.any fun y => eqF y a) else none) = some k → rInA c.K f x (.ref p) H Q := by
    intro p vs xs h r e
    by_cases hf : flatP a = true ∧ xs.all flatP = true
    · rw [if_pos hf] at e
      cases e
      exact .inr (.inl ⟨p, vs, rfl, .inr (SqT.of (s _ _ h)), flatP_ok ra hf.1, flatP_all r hf.2, by rw [eqF_any ra hf.1 r hf.2]; exact q⟩)
    · rw [if_neg hf] at e
      cases e
  have dic : ∀ {p : Addr} {vs : List (Key × V)} {xs : List (Key × PV)}, F p = some (.dK vs) → RepD c F vs xs → (keyP a).map (fun k => (valP xs k).isSome) = some k → rInA c.K f x (.ref p) H Q := by
    intro p vs xs h r e
    obtain ⟨z, h1, h2⟩ := Option.map_eq_some_iff.mp e
    have ek := keyP_ok ra h1
    subst ek
    refine .inr (.inr (.inr ⟨p, _, rfl, DGet.k (s _ _ h), ?_⟩))
    rw [r.isSome, h2]
    exact q
  cases rb with
  | lst h r _ => exact list (g := none) h r (by cases ra <;> exact e)
  | tup h r => exact tup h r (by cases ra <;> exact e)
  | dic h r _ => exact dic h r (by cases ra <;> exact e)
  | str z =>
    cases ra with
    | str x =>
      have e' : inS x z = some k := e
      unfold inS at e'
      split at e'
      · rename_i n hn
        cases e'
        exact .inl ⟨n, z, by rw [str_one hn], rfl, q⟩
      · cases e'
    | _ => cases e
  | _ => cases ra <;> cases e
theorem o_in (hk : c.K = X.K) : Op2 c pIn (rInA X.K id) := fun F H x y a b v Q s ra rb e q => by
  obtain ⟨k, e1, rfl⟩ := Option.map_eq_some_iff.mp e
  rw [← hk]
  exact inB_ok s ra rb e1 (q _ F H (Grow.refl s) (.bl k))
theorem o_notIn (hk : c.K = X.K) : Op2 c pNotIn (rInA X.K (!·)) := fun F H x y a b v Q s ra rb e q => by
  obtain ⟨k, e1, rfl⟩ := Option.map_eq_some_iff.mp e
  rw [← hk]
  exact inB_ok s ra rb e1 (q _ F H (Grow.refl s) (.bl !k))
end

/-! ### isinstance with a tuple of classes; texts' methods -/
section
variable {c : Cn} {X : Cx} {W : WX} {a b : Expr} {pos : Pos} {ga gb : GE}
/-- names of built-in classes, from the left -/
inductive TyNames (X : Cx) : List Expr → List String → Prop
  | nil : TyNames X [] []
  | cons {T : Str} {U : String} {p : Pos} {es : List Expr} {us : List String} (hg : Gl X T) (hm : X.mg T = none) (hv : bootBuiltins T = some (.type U)) (hn : T ≠ "__name__") (hd : (T == ("__debug__" : Str)) = false) (r : TyNames X es us)
      (he : starEach (.Name T p :: es) X.env = (false, eval (.Name T p) X.env) :: starEach es X.env) : TyNames X (.Name T p :: es) (U :: us)
def tVs (vs : List V) : TA := fun _ H Q => Q vs H
theorem tyNames_pa {es : List Expr} {us : List String} (h : TyNames X es us) : PA X es (tVs (us.map V.ty)) := by
  induction h with
  | nil => exact pa_nil
  | cons hg hm hv hn hd r he ih => exact pa_cons (pe_bltn (v := .ty _) hg hm hv rfl hn hd) ih he
theorem anyT_ok {K : PySem.W.Frag} {v : PV} {t : String} (ht : tyN v = some t) : ∀ {us : List String} {b : Bool}, anyT v us = some b → PySem.W.kitAny K (.type t) (us.map Value.type) = some b
  | [], b, e => by cases e; rfl
  | u :: us, b, e => by
    obtain ⟨k, e1, e2⟩ := Option.bind_eq_some_iff.mp (show (isT u v).bind _ = some b from e)
    obtain ⟨t', e3, e4⟩ := Option.bind_eq_some_iff.mp e1
    rw [ht] at e3
    cases e3
    have q : PySem.W.kitOne K (.type t) (.type u) = some k := kit_ty e4
    show PySem.W.kitAny K (.type t) (.type u :: us.map Value.type) = some b
    unfold PySem.W.kitAny
    rw [q]
    cases k with
    | true => cases e2; rfl
    | false => exact anyT_ok ht e2
theorem clsV_all : ∀ us : List String, Paired ClsV (us.map V.ty) (us.map Value.type)
  | [] => .nil
  | u :: us => .cons (.ty u) (clsV_all us)
theorem ve_isiT {x : Str} {es : List Expr} {us : List String} {p p2 : Pos} {k2 : Nat} (hk : c.K = X.K) (hg : Gl X x) (hm : X.mg x = none) (hv : bootBuiltins x = some (.builtin "isinstance")) (hz : us.length ≤ sizeLine) (hne : us ≠ []) (ha : PE X a (tE c W ga)) (ht : TyNames X es us)
    (hn : x ≠ "__name__" := by decide) (hdb : (x == ("__debug__" : Str)) = false := by decide)
    (he : starEach [a, .Tuple es k2 p2] X.env = (false, eval a X.env) :: starEach [.Tuple es k2 p2] X.env := by rfl) (he2 : starEach [.Tuple es k2 p2] X.env = (false, eval (.Tuple es k2 p2) X.env) :: starEach [] X.env := by rfl)
    (hpl : (backTo pos (starEach [.Tuple es k2 p2] X.env)).any (·.1) = false := by rfl) : PE X (.Call (.Name x p) [a, .Tuple es k2 p2] [] pos) (tE c W (eOp1 (pIsiT us) ga)) :=
  imp_PE (pe_callB call_isiT hg hm hv (pa_cons ha (pa_cons (pe_tup (tyNames_pa ht)) pa_nil he2) he) hn hdb he hpl) fun σ H Q ⟨ρ, F, er, z⟩ => by
    refine tE_bind er z fun v ρ1 w F1 H1 st rep h1 => ?_
    obtain ⟨u, e, h1⟩ := lift_run h1
    obtain ⟨b, e1, rfl⟩ := Option.map_eq_some_iff.mp e
    have ht' : ∃ t, tyN v = some t := by
      cases us with
      | nil => exact absurd rfl hne
      | cons u us =>
        obtain ⟨k, e2, _⟩ := Option.bind_eq_some_iff.mp (show (isT u v).bind _ = some b from e1)
        obtain ⟨t, e3, _⟩ := Option.bind_eq_some_iff.mp e2
        exact ⟨t, e3⟩
    obtain ⟨t, ht'⟩ := ht'
    refine ⟨by rw [List.length_map]; exact hz, fun q hq => ?_⟩
    have gr := upd_growH (o := .tup (us.map V.ty)) st.2.sub hq
    refine ⟨w, q, us.map V.ty, .type t, us.map Value.type, b, rfl, upd_same, clsV_all us, .base ?_, anyT_ok ht' e1, h1 _ F1 _ (st.trans (gr.stpE st.2)) (.bl b)⟩
    rw [← hk]
    exact tyN_ok gr.sub rep ht'

/-- sep.join(xs) -/
def pJoin : PV → PV → Option PV
  | .str a, .lst _ xs => (strsOf xs).bind fun ys => if (ys.map (·.length)).sum + ys.length * a.length ≤ 16777216 then some (.str (Txt.join a ys)) else none
  | .str a, .tup xs => (strsOf xs).bind fun ys => if (ys.map (·.length)).sum + ys.length * a.length ≤ 16777216 then some (.str (Txt.join a ys)) else none
  | _, _ => none
def isStr : PV → Bool
  | .str _ => true
  | _ => false
/-- a text's method of one argument: the receiver is a text ahead of the argument -/
def eStrM (f : PV → PV → Option PV) (g h : GE) : GE := fun ρ => (g ρ).bind fun a => if isStr a.1 = true then (h a.2).bind fun b => lift (f a.1 b.1) b.2 else .stuck
def lStrM (f : PV → PV → Option (List PV)) (g h : GE) : GL := fun ρ => (g ρ).bind fun a => if isStr a.1 = true then (h a.2).bind fun b => lift' (f a.1 b.1) b.2 else .stuck
theorem ve_join {apos : Pos} (hk : c.K = X.K) (ha : PE X a (tE c W ga)) (hb : PE X b (tE c W gb)) (hs : starEach [b] X.env = [(false, eval b X.env)] := by rfl) (hbase : attributeBase a "join" X.env (eval a X.env) = eval a X.env := by rfl)
    (hline : (apos.endLine == pos.line) = true := by rfl) : PE X (.Call (.Attribute a "join" apos) [b] [] pos) (tE c W (eStrM pJoin ga gb)) :=
  imp_PE (pe_join ha hb hs hbase hline) fun σ H Q ⟨ρ, F, er, z⟩ => by
    refine tE_bind er z fun v ρ1 w F1 H1 st rep h1 => ?_
    cases rep with
    | str x =>
      refine ⟨⟨x, rfl⟩, tE_bind st.2 h1 fun u ρ2 w2 F2 H2 st2 rep2 h2 => ?_⟩
      obtain ⟨q, e, h2⟩ := lift_run h2
      rw [← hk]
      cases rep2 with
      | @lst p vs g xs h r _ =>
        obtain ⟨ys, e1, e2⟩ := Option.bind_eq_some_iff.mp (show (strsOf xs).bind _ = some q from e)
        have ew := strsOf_ok r e1
        subst ew
        split at e2
        · rename_i hz
          cases e2
          exact ⟨x, p, ys, rfl, rfl, .inl (SqL.of (st2.2.sub _ _ h)), hz, h2 _ F2 H2 (st.trans st2) (.str _)⟩
        · cases e2
      | @tup p vs xs h r =>
        obtain ⟨ys, e1, e2⟩ := Option.bind_eq_some_iff.mp (show (strsOf xs).bind _ = some q from e)
        have ew := strsOf_ok r e1
        subst ew
        split at e2
        · rename_i hz
          cases e2
          exact ⟨x, p, ys, rfl, rfl, .inr (SqT.of (st2.2.sub _ _ h)), hz, h2 _ F2 H2 (st.trans st2) (.str _)⟩
        · cases e2
      | _ => cases e
    | _ => exact h1.elim
/-- s.split(sep) -/
def lSplit : PV → PV → Option (List PV)
  | .str a, .str b => if (b.length == 0) = false ∧ a.length + 2 ≤ sizeLine then some ((Txt.split a b).map .str) else none
  | _, _ => none
theorem Reps.ofStrs {F : Hp} : ∀ ns : List Str, Reps c F (ns.map V.str) (ns.map PV.str)
  | [] => .nil
  | n :: ns => .cons (.str n) (Reps.ofStrs ns)
theorem vl_split {apos : Pos} (ha : PE X a (tE c W ga)) (hb : PE X b (tE c W gb)) (hs : starEach [b] X.env = [(false, eval b X.env)] := by rfl) (hbase : attributeBase a "split" X.env (eval a X.env) = eval a X.env := by rfl)
    (hline : (apos.endLine == pos.line) = true := by rfl) : PE X (.Call (.Attribute a "split" apos) [b] [] pos) (tL c W (lStrM lSplit ga gb)) :=
  imp_PE (pe_split ha hb hs hbase hline) fun σ H Q ⟨ρ, F, er, z⟩ => by
    refine tE_bind er z fun v ρ1 w F1 H1 st rep h1 => ?_
    cases rep with
    | str x =>
      refine ⟨⟨x, rfl⟩, tE_bind st.2 h1 fun u ρ2 w2 F2 H2 st2 rep2 h2 => ?_⟩
      obtain ⟨q, e, h2⟩ := lift'_run h2
      cases rep2 with
      | str y =>
        have e' : (if (y.length == 0) = false ∧ x.length + 2 ≤ sizeLine then some ((Txt.split x y).map PV.str) else none) = some q := e
        split at e'
        · rename_i hz
          cases e'
          exact ⟨x, y, rfl, rfl, hz.1, hz.2, fun p hp => laidL (st.trans st2) h2 hp (Reps.ofStrs _)⟩
        · cases e'
      | _ => cases e
    | _ => exact h1.elim
end

/-! ### defs: what they promise, their calls -/
abbrev GF := List SV → Wp XE' (PV × List SV)
def SpV (c : Cn) (n : Nat) (m : GF) : Sp := fun vs H Q E => vs.length = n ∧ ∃ F ss, ER c F H (vs.map some) ss ∧
  (m ss).run (OkE c (vs.map some) ss F H Q) (ErE c (fun cls d _ H' => E cls d H') (vs.map some) ss F H)
/-- a def of the module by its name -/
structure Fv (P : Program) (w : World) (K : PySem.W.Frag) (mg : Str → Option Value) (base : Heap) (c : Cn) (k : Nat) (x : Str) (n : Nat) (m : GF) : Prop where
  ex : ∃ (f : Addr) (fd : FuncData) (ps : List Str), ps.length = n ∧ mg x = some (.ref f) ∧ FnOk P w K mg base (L2.CX P w) k f fd ps (SpV c n m) ∧ PySem.W.keepIn K (.ref f) = true ∧ Binds K fd ps []
def fzs (xs : List PV) : List SV := xs.map .fz
theorem Reps.er {c : Cn} {F H : Hp} (s : Same F H) (mk : ∀ p, c.B p → ∃ o, H p = some o) : ∀ {vs : List V} {xs : List PV}, Reps c F vs xs → ER c F H (vs.map some) (fzs xs) := fun {vs xs} r => by
  refine ⟨s, by rw [List.length_map, fzs, List.length_map, r.length], fun i o t h1 h2 => ?_, fun i j t u p h1 h2 h3 h4 h5 h6 => ?_, mk⟩
  · unfold fzs at h2
    rw [List.getElem?_map] at h1 h2
    obtain ⟨x, e1, rfl⟩ := Option.map_eq_some_iff.mp h2
    obtain ⟨v, e2, rp⟩ := r.get e1
    rw [e2] at h1
    cases h1
    exact ⟨v, rfl, rp⟩
  · unfold fzs at h3
    rw [List.getElem?_map] at h3
    obtain ⟨x, e1, rfl⟩ := Option.map_eq_some_iff.mp h3
    cases h5
theorem fzs_own {σ : St} {xs : List PV} {p : Addr} : ¬ Own σ (fzs xs) p := fun ⟨i, s, h1, h2, h3⟩ => by
  unfold fzs at h2
  rw [List.getElem?_map] at h2
  obtain ⟨x, e1, rfl⟩ := Option.map_eq_some_iff.mp h2
  cases h3
section
variable {c : Cn} {X : Cx} {W : WX} {pos p : Pos} {x : Str}
def eCall (m : GF) (ga : GA) : GE := fun ρ => (ga ρ).bind fun a => ((m (fzs a.1)).mapE fun e => (e.1, a.2)).bind fun r => .ret (r.1, a.2)
theorem call_frozen {m : GF} {σ : St} {ρ ρ1 : Env'} {F H F1 H1 : Hp} {Q : VK} {vs : List V} {v : List PV} {n : Nat} {W : WX} (hl : vs.length = n) (st : StpE c σ ρ F H ρ1 F1 H1) (rep : Reps c F1 vs v)
    (h : (m (fzs v)).run (fun r => OkE c σ ρ F H Q (r.1, ρ1)) (fun e => ErE c W σ ρ1 F1 H1 (e.1, ρ1))) : SpV c n m vs H1 Q (WE W σ) := by
  refine ⟨hl, F1, fzs v, rep.er st.2.sub st.2.mrk, (m (fzs v)).mono (fun r q w F' H' st' rp => ?_) (fun e q d F' H' st' ex => ?_) h⟩
  · have gr : Grow F1 H1 F' H' := ⟨st'.1.ff, fun b o z => (st'.1.hh b o z fzs_own).1, st'.2.sub, fun b o z => (st'.1.hh b o z fzs_own).2⟩
    exact q w F' H' (st.trans (gr.stpE st.2)) rp
  · have gr : Grow F1 H1 F' H' := ⟨st'.1.ff, fun b o z => (st'.1.hh b o z fzs_own).1, st'.2.sub, fun b o z => (st'.1.hh b o z fzs_own).2⟩
    exact q d F' H' (gr.stpE st.2) ex
theorem ve_call {k j n : Nat} {m : GF} {e : Expr} {es : List Expr} {ga : GA} (F : Fv X.prog X.w X.K X.mg X.base c k x n m) (hr : Room j X.A) (hj : k ≤ j) (hg : Gl X x) (tk : Takes X W) (ha : PA X (e :: es) (tA c W n ga))
    (hdb : (x == ("__debug__" : Str)) = false := by decide) (he : starEach (e :: es) X.env = (false, eval e X.env) :: starEach es X.env := by rfl) (hpl : (backTo pos (starEach es X.env)).any (·.1) = false := by rfl) :
    PE X (.Call (.Name x p) (e :: es) [] pos) (tE c W (eCall m ga)) := by
  obtain ⟨f, fd, ps, hp, hm, G, kp, hb⟩ := F.ex
  exact imp_PE (pe_callS G (hr.mono hj) hg hm kp hb (fun σ => passAt tk σ) ha hdb he hpl) fun σ H Q ⟨ρ, F, er, z⟩ =>
    tA_bind er z fun v ρ1 vs F1 H1 st rep hl h1 => call_frozen hl st rep h1
end
end VL

set_option Elab.async false
set_option linter.all false
set_option maxRecDepth 100000
set_option maxHeartbeats 1000000
/-! VL, part 5: calls with a box, targets, what is walked, comprehensions. -/
namespace VL
open PySem PySem.Spec PyProof.Rows L2

/-! ### a call whose first argument is a slot of one's own -/
def ownAt (ρ : Env') (i : Nat) : Bool := match ρ[i]? with
  | some s => s.own
  | none => false
def boxCall (m : GF) (i : Nat) (v : List PV) (ρ : Env') : Wp XE' (PV × Env') := match ρ[i]? with
  | some s => if s.own = true then ((m (s :: fzs v)).mapE fun e => (e.1, ρ.set i (e.2.headD .un))).bind fun r => .ret (r.1, ρ.set i (r.2.headD .un)) else .stuck
  | none => .stuck
def eCallB (m : GF) (i : Nat) (ga : GA) : GE := fun ρ => if ownAt ρ i = true then (ga ρ).bind fun a => boxCall m i a.1 a.2 else .stuck
theorem ownAt_val {c : Cn} {F H : Hp} {σ : St} {ρ : Env'} {i : Nat} (er : ER c F H σ ρ) (h : ownAt ρ i = true) : ∃ u, σ[i]? = some (some u) := by
  unfold ownAt at h
  split at h
  · rename_i s hs
    have hi : i < σ.length := by rw [er.len]; exact (List.getElem?_eq_some_iff.mp hs).1
    have q := er.slot i σ[i] s (List.getElem?_eq_getElem hi) hs
    rw [List.getElem?_eq_getElem hi]
    cases s with
    | un => cases h
    | fz v => cases h
    | ow xs => obtain ⟨p, vs, e, _⟩ := q; exact ⟨_, by rw [e]⟩
    | bx n => obtain ⟨p, vs, e, _⟩ := q; exact ⟨_, by rw [e]⟩
  · cases h
section
variable {c : Cn} {σ : St} {ρ : Env'} {F H F' H' : Hp}
/-- a slot of one's own is handed on: the callee's view -/
theorem er_hand {i : Nat} {s : SV} {v : V} {vs : List V} {xs : List PV} (er : ER c F H σ ρ) (hi : ρ[i]? = some s) (ho : s.own = true) (hv : σ[i]? = some (some v)) (r : Reps c F vs xs) : ER c F H ((v :: vs).map some) (s :: fzs xs) := by
  have e0 := r.er er.sub er.mrk
  refine ⟨er.sub, by simp [fzs, r.length], fun j o t h1 h2 => ?_, fun j k t u p h1 h2 h3 h4 h5 h6 => ?_, er.mrk⟩
  · cases j with
    | zero => cases h1; cases h2; exact er.slot i _ _ hv hi
    | succ j => exact e0.slot j o t (by simpa using h1) (by simpa using h2)
  · cases j with
    | zero =>
      cases k with
      | zero => rfl
      | succ k => exact absurd ⟨k, u, by simpa using h2, by simpa using h4, h6⟩ (fzs_own (σ := vs.map some) (xs := xs) (p := p))
    | succ j => exact absurd ⟨j, t, by simpa using h1, by simpa using h3, h5⟩ (fzs_own (σ := vs.map some) (xs := xs) (p := p))
theorem own_hand {i : Nat} {s : SV} {v : V} {vs : List V} {xs : List PV} {p : Addr} (h : Own ((v :: vs).map some) (s :: fzs xs) p) : v = .ref p ∧ s.own = true := by
  obtain ⟨j, t, h1, h2, h3⟩ := h
  cases j with
  | zero => cases h1; cases h2; exact ⟨rfl, h3⟩
  | succ j => exact absurd ⟨j, t, by simpa using h1, by simpa using h2, h3⟩ (fzs_own (σ := vs.map some) (xs := xs) (p := p))
/-- .. and behind: what came back stands in the slot -/
theorem er_back {i : Nat} {s t : SV} {v : V} {vs : List V} {xs : List PV} {out : List SV} (er : ER c F H σ ρ) (hi : ρ[i]? = some s) (ho : s.own = true) (hv : σ[i]? = some (some v)) (r : Reps c F vs xs)
    (st : Stp F H (Own ((v :: vs).map some) (s :: fzs xs)) F' H' (Own ((v :: vs).map some) out)) (er' : ER c F' H' ((v :: vs).map some) out) (ht : out.headD .un = t) : StpE c σ ρ F H (ρ.set i t) F' H' := by
  have hil : i < ρ.length := (List.getElem?_eq_some_iff.mp hi).1
  have hh : ∀ p, v = .ref p → ∀ j u, σ[j]? = some (some (.ref p)) → ρ[j]? = some u → u.own = true → j = i := fun p e j u h1 h2 h3 => by
    subst e
    exact er.dis j i u s p h1 hv h2 hi h3 ho
  have ht0 : out[0]? = some t ∨ t = .un := by
    cases out with
    | nil => exact .inr ht.symm
    | cons a as => exact .inl (by simp at ht ⊢; exact ht)
  have own' : ∀ p, Own σ (ρ.set i t) p → (v = .ref p ∧ out[0]? = some t ∧ t.own = true) ∨ (Own σ ρ p ∧ v ≠ .ref p) := fun p ⟨j, u, h1, h2, h3⟩ => by
    by_cases hj : i = j
    · subst hj
      rw [List.getElem?_set_self hil] at h2
      cases h2
      rw [hv] at h1
      cases h1
      rcases ht0 with q | q
      · exact .inl ⟨rfl, q, h3⟩
      · subst q; cases h3
    · rw [List.getElem?_set_ne hj] at h2
      exact .inr ⟨⟨j, u, h1, h2, h3⟩, fun e => hj (hh p e j u h1 h2 h3).symm⟩
  refine ⟨⟨st.ff, fun p o h n => ?_, st.th, fun p h => ?_⟩, er'.sub, by rw [List.length_set]; exact er.len, fun j o u h1 h2 => ?_, fun j k u w p h1 h2 h3 h4 h5 h6 => ?_, er'.mrk⟩
  · exact st.hh p o h fun z => n (by
      obtain ⟨e, _⟩ := own_hand (i := i) z
      subst e
      exact ⟨i, s, hv, hi, ho⟩)
  · rcases own' p h with ⟨e, h1, h2⟩ | ⟨h, _⟩
    · subst e
      rcases st.ow p ⟨0, t, rfl, h1, h2⟩ with z | z
      · obtain ⟨e, _⟩ := own_hand (i := i) z
        exact .inl ⟨i, s, hv, hi, ho⟩
      · exact .inr z
    · exact .inl h
  · by_cases hj : i = j
    · subst hj
      rw [List.getElem?_set_self hil] at h2
      cases h2
      rw [hv] at h1
      cases h1
      rcases ht0 with q | q
      · exact er'.slot 0 _ _ rfl q
      · subst q; exact True.intro
    · rw [List.getElem?_set_ne hj] at h2
      have q := er.slot j o u h1 h2
      have keep : ∀ p vs', o = some (.ref p) → u.own = true → H p = some (.lst vs') → F p = none → H' p = some (.lst vs') ∧ F' p = none := fun p vs' e1 e2 h f => by
        subst e1
        obtain ⟨a, b⟩ := st.hh p _ h fun z => by
          obtain ⟨e, _⟩ := own_hand (i := i) z
          exact hj (hh p e j u h1 h2 e2).symm
        exact ⟨a, b f⟩
      cases u with
      | un => trivial
      | fz x => obtain ⟨w, e, rp⟩ := q; exact ⟨w, e, rp.mono st.ff⟩
      | ow ys => obtain ⟨p, ws, e, f, h, rp⟩ := q; obtain ⟨a, b⟩ := keep p ws e rfl h f; exact ⟨p, ws, e, b, a, rp.mono st.ff⟩
      | bx n => obtain ⟨p, ws, e, f, h, rp⟩ := q; obtain ⟨a, b⟩ := keep p ws e rfl h f; exact ⟨p, ws, e, b, a, rp⟩
  · by_cases hj : i = j
    · by_cases hk : i = k
      · exact hj ▸ hk
      · subst hj
        rw [List.getElem?_set_ne hk] at h4
        rw [hv] at h1
        cases h1
        exact (hh p rfl k w h2 h4 h6).symm
    · rw [List.getElem?_set_ne hj] at h3
      by_cases hk : i = k
      · subst hk
        rw [hv] at h2
        cases h2
        exact hh p rfl j u h1 h3 h5
      · rw [List.getElem?_set_ne hk] at h4
        exact er.dis j k u w p h1 h2 h3 h4 h5 h6
end
section
variable {c : Cn} {X : Cx} {W : WX} {pos p : Pos} {x : Str}
theorem call_box {m : GF} {σ : St} {ρ ρ1 : Env'} {F H F1 H1 : Hp} {Q : VK} {vs : List V} {v : List PV} {n i : Nat} {u : V} (hl : vs.length = n) (st : StpE c σ ρ F H ρ1 F1 H1) (rep : Reps c F1 vs v) (hu : σ[i]? = some (some u))
    (h : (boxCall m i v ρ1).run (OkE c σ ρ F H Q) (ErE c W σ ρ1 F1 H1)) : SpV c (n + 1) m (u :: vs) H1 Q (WE W σ) := by
  unfold boxCall at h
  cases hs : ρ1[i]? with
  | none => rw [hs] at h; exact h.elim
  | some s =>
    rw [hs] at h
    dsimp only at h
    by_cases ho : s.own = true
    · rw [if_pos ho] at h
      refine ⟨by rw [List.length_cons, hl], F1, s :: fzs v, er_hand st.2 hs ho hu rep, (m (s :: fzs v)).mono (fun r q w F' H' st' rp => ?_) (fun e q d F' H' st' ex => ?_) h⟩
      · exact q w F' H' (st.trans (er_back st.2 hs ho hu rep st'.1 st'.2 rfl)) rp
      · exact q d F' H' (er_back st.2 hs ho hu rep st'.1 st'.2 rfl) ex
    · rw [if_neg ho] at h
      exact h.elim
/-- f(box, ..), box in slot i -/
theorem ve_callB' {k j n i : Nat} {m : GF} {e : Expr} {es : List Expr} {ga : GA} (F : Fv X.prog X.w X.K X.mg X.base c k x (n + 1) m) (hr : Room j X.A) (hj : k ≤ j) (hg : Gl X x) (tk : Takes X W) (he0 : PE X e (tVar i)) (ha : PA X es (tA c W n ga))
    (hdb : (x == ("__debug__" : Str)) = false := by decide) (he : starEach (e :: es) X.env = (false, eval e X.env) :: starEach es X.env := by rfl) (hpl : (backTo pos (starEach es X.env)).any (·.1) = false := by rfl) :
    PE X (.Call (.Name x p) (e :: es) [] pos) (tE c W (eCallB m i ga)) := by
  obtain ⟨f, fd, ps, hp, hm, G, kp, hb⟩ := F.ex
  refine imp_PE (pe_callS G (hr.mono hj) hg hm kp hb (fun σ => passAt tk σ) (pa_cons he0 ha he) hdb he hpl) fun σ H Q ⟨ρ, F, er, z⟩ => ?_
  unfold eCallB at z
  by_cases ho : ownAt ρ i = true
  · rw [if_pos ho] at z
    obtain ⟨u, hu⟩ := ownAt_val er ho
    exact ⟨u, hu, tA_bind er z fun v ρ1 vs F1 H1 st rep hl h1 => call_box hl st rep hu h1⟩
  · rw [if_neg ho] at z
    exact z.elim

/-! ### calls with all arguments by keywords, in any order -/
theorem imp_PK {e : List Keyword} {t t' : TA} (h : PK X e t) (f : ∀ σ H Q, t' σ H Q → t σ H Q) : PK X e t' := ⟨fun pos pins s σ H Q I hw => h.run pos pins s σ H Q I (f σ H Q hw)⟩
theorem vk_nil : PK X [] (tA c W 0 aNil) := imp_PK pk_nil fun σ H Q ⟨ρ, F, er, z⟩ => z [] F H (StpE.refl er) .nil rfl
theorem vk_cons {a : Expr} {es : List Keyword} {n : Nat} {ga : GE} {gr : GA} {nm : Option Str} {kpos : Pos} (ha : PE X a (tE c W ga)) (hr : PK X es (tA c W n gr)) : PK X (⟨nm, a, kpos⟩ :: es) (tA c W (n + 1) (aCons ga gr)) :=
  imp_PK (pk_cons ha hr) fun σ H Q ⟨ρ, F, er, z⟩ => tE_bind er z fun v ρ1 w F1 H1 st rep h1 =>
    tA_bind st.2 h1 fun u ρ2 y F2 H2 st2 rep2 hl h2 => h2 (w :: y) F2 H2 (st.trans st2) (.cons (rep.mono st2.1.ff) rep2) (by rw [List.length_cons, hl])
end
/-- the i-th parameter is the (π i)-th keyword -/
def perm {α : Type} (d : α) (π : List Nat) (xs : List α) : List α := π.map fun i => xs.getD i d
structure FvK (P : Program) (w : World) (K : PySem.W.Frag) (mg : Str → Option Value) (base : Heap) (c : Cn) (k : Nat) (x : Str) (n : Nat) (m : GF) (ks : List Str) (π : List Nat) : Prop where
  ex : ∃ (f : Addr) (fd : FuncData) (ps : List Str), ps.length = n ∧ mg x = some (.ref f) ∧ FnOk P w K mg base (L2.CX P w) k f fd ps (SpV c n m) ∧ PySem.W.keepIn K (.ref f) = true ∧
    ∀ (s : Shared) (us : List Value), K.In s.heap → us.length = n → BindsTo s fd ⟨[], ks.zip us⟩ (ps.zip (perm .none π us))
def eCallK (m : GF) (π : List Nat) (ga : GA) : GE := fun ρ => (ga ρ).bind fun a => ((m (fzs (perm .non π a.1))).mapE fun e => (e.1, a.2)).bind fun r => .ret (r.1, a.2)
section
variable {c : Cn} {X : Cx} {W : WX} {pos p : Pos} {x : Str}
theorem Reps.perm {F : Hp} {vs : List V} {xs : List PV} (r : Reps c F vs xs) : ∀ π : List Nat, Reps c F (VL.perm .non π vs) (VL.perm .non π xs)
  | [] => .nil
  | i :: π => by
    refine .cons ?_ (Reps.perm r π)
    show Rep c F (vs.getD i .non) (xs.getD i .non)
    rw [List.getD_eq_getElem?_getD, List.getD_eq_getElem?_getD]
    cases e : xs[i]? with
    | some x =>
      obtain ⟨v, h1, h2⟩ := r.get e
      rw [h1]
      exact h2
    | none =>
      have h : vs[i]? = none := List.getElem?_eq_none (by rw [r.length]; exact List.getElem?_eq_none_iff.mp e)
      rw [h]
      exact .non
theorem vals_perm {vs : List V} {us : List Value} (r : Vals vs us) : ∀ π : List Nat, Vals (perm .non π vs) (perm .none π us)
  | [] => .nil
  | i :: π => by
    refine .cons ?_ (vals_perm r π)
    show L2.RelV (vs.getD i .non) (us.getD i .none)
    rw [List.getD_eq_getElem?_getD, List.getD_eq_getElem?_getD]
    cases e : vs[i]? with
    | some v =>
      obtain ⟨u, h1, h2⟩ := r.get e
      rw [h1]
      exact h2
    | none =>
      have h : us[i]? = none := r.none_of e
      rw [h]
      rfl
theorem ve_callK {k j n : Nat} {m : GF} {kws : List Keyword} {ga : GA} {ks : List Str} {π : List Nat} (F : FvK X.prog X.w X.K X.mg X.base c k x n m ks π) (hr : Room j X.A) (hj : k ≤ j) (hπ : π.length = n) (hg : Gl X x) (tk : Takes X W) (ha : PK X kws (tA c W n ga))
    (hall : (backToKw pos (keywordEach kws X.env)).all (·.1.isSome) = true := by rfl) (hks : (backToKw pos (keywordEach kws X.env)).filterMap (·.1) = ks := by rfl)
    (hpl : ((backTo pos (starEach [] X.env)).any (·.1) || (backToKw pos (keywordEach kws X.env)).any (·.1.isNone)) = false := by rfl)
    (hdb : (x == ("__debug__" : Str)) = false := by decide) : PE X (.Call (.Name x p) [] kws pos) (tE c W (eCallK m π ga)) := by
  obtain ⟨f, fd, ps, hp, hm, G, kp, hb⟩ := F.ex
  refine ⟨fun pins s σ H Q I ⟨ρ, F, er, z⟩ => ?_⟩
  refine wpAny_Call_Name_kw (ld_glob I hg hm ?_ hdb)
  refine PySem.W.callWith_KW0 (h₀ := X.base) I.ok.mod.kin kp hall (thn (ha.run pos pins s σ H _ I (tA_bind (R := fun vs H1 => vs.length = n ∧ SpV c n m (perm .non π vs) H1 Q (WE W σ)) er z fun v ρ1 vs F1 H1 st rep hl h1 =>
    ⟨hl, call_frozen (by unfold perm; rw [List.length_map]; exact hπ) st (rep.perm π) h1⟩)) fun us s1 ⟨vs, H1, I1, rv, hl, q⟩ => ⟨I1.kIn, ?_⟩) hpl
  rw [hks]
  have hu : us.length = n := by rw [← rv.length]; exact hl
  refine wpAny_call (codeAny_mono (G.run X.A X.stack s1 H1 ⟨[], ks.zip us⟩ (perm .none π us) (perm .non π vs) Q (WE W σ) (hr.mono hj) I1.env0 (hb s1 us I1.kIn hu) (vals_perm rv π) q) fun r s' hq => ?_)
  cases r with
  | error e => exact passAt tk σ pins H1 s1 e s' I1 hq
  | ok fl =>
    cases fl with
    | ret u => exact I1.after hq
    | next => exact False.elim hq
    | brk => exact False.elim hq
    | cont => exact False.elim hq
end

/-! ### targets -/
abbrev GG := PV → Env' → Option Env'
def gN (i : Nat) : GG := fun v ρ => some (ρ.set i (.fz v))
def setAll : List Nat → List PV → Env' → Option Env'
  | [], [], ρ => some ρ
  | i :: is, v :: vs, ρ => setAll is vs (ρ.set i (.fz v))
  | _, _, _ => none
def gT (is : List Nat) : GG := fun v ρ => match v with
  | .tup xs => if xs.length = is.length then setAll is xs ρ else none
  | _ => none
def wipeE (ρ : Env') : List Nat → Env'
  | [] => ρ
  | v :: vs => (wipeE ρ vs).set v .un
def backE (ρ ρ0 : Env') : List Nat → Env'
  | [] => ρ
  | v :: vs => (backE ρ ρ0 vs).set v (match ρ0[v]? with
    | some (.fz x) => .fz x
    | _ => .un)
/-- what a target does: only the slots is are written -/
def TgOk (c : Cn) (is : List Nat) (g : TG) (f : GG) : Prop := ∀ (F H : Hp) (σ : St) (ρ ρ' : Env') (x : V) (v : PV) (Q : St → Hp → Prop), ER c F H σ ρ → Rep c F x v → f v ρ = some ρ' →
  (∀ σ', ER c F H σ' ρ' → (∀ p, Own σ' ρ' p → Own σ ρ p) → wipe σ' is = wipe σ is → (∀ j, j ∉ is → σ'[j]? = σ[j]?) → Q σ' H) → g x σ H Q
section
variable {c : Cn} {F H : Hp} {σ : St} {ρ : Env'}
theorem ER.set (er : ER c F H σ ρ) {i : Nat} {w : V} {v : PV} (r : Rep c F w v) : ER c F H (σ.set i (some w)) (ρ.set i (.fz v)) := by
  refine ⟨er.sub, by rw [List.length_set, List.length_set]; exact er.len, fun j o s h1 h2 => ?_, fun j k s t p h1 h2 h3 h4 h5 h6 => ?_, er.mrk⟩
  · by_cases hj : i = j
    · subst hj
      have hi : i < ρ.length := by
        have := (List.getElem?_eq_some_iff.mp h2).1
        rwa [List.length_set] at this
      rw [List.getElem?_set_self hi] at h2
      rw [List.getElem?_set_self (by rw [er.len]; exact hi)] at h1
      cases h1
      cases h2
      exact ⟨w, rfl, r⟩
    · rw [List.getElem?_set_ne hj] at h1 h2
      exact er.slot j o s h1 h2
  · have ne : ∀ {j s}, (ρ.set i (.fz v))[j]? = some s → s.own = true → i ≠ j := fun {j s} h3 h5 hj => by
      subst hj
      have hi : i < ρ.length := by
        have := (List.getElem?_eq_some_iff.mp h3).1
        rwa [List.length_set] at this
      rw [List.getElem?_set_self hi] at h3
      cases h3
      cases h5
    have n1 := ne h3 h5
    have n2 := ne h4 h6
    rw [List.getElem?_set_ne n1] at h1 h3
    rw [List.getElem?_set_ne n2] at h2 h4
    exact er.dis j k s t p h1 h2 h3 h4 h5 h6
theorem own_set {i : Nat} {w : V} {v : PV} {p : Addr} (h : Own (σ.set i (some w)) (ρ.set i (.fz v)) p) : Own σ ρ p := by
  obtain ⟨j, s, h1, h2, h3⟩ := h
  by_cases hj : i = j
  · subst hj
    have hi : i < ρ.length := by
      have := (List.getElem?_eq_some_iff.mp h2).1
      rwa [List.length_set] at this
    rw [List.getElem?_set_self hi] at h2
    cases h2
    cases h3
  · rw [List.getElem?_set_ne hj] at h1 h2
    exact ⟨j, s, h1, h2, h3⟩
theorem wipe_get (σ : St) : ∀ (vs : List Nat) (j : Nat), (wipe σ vs)[j]? = if j ∈ vs then (if j < σ.length then some none else none) else σ[j]?
  | [], j => by simp [wipe]
  | v :: vs, j => by
    unfold wipe
    by_cases hj : v = j
    · subst hj
      by_cases hl : v < σ.length
      · rw [List.getElem?_set_self (by rw [wipe_length]; exact hl)]
        simp [hl]
      · rw [List.getElem?_eq_none (by rw [List.length_set, wipe_length]; omega)]
        simp [hl]
    · rw [List.getElem?_set_ne hj, wipe_get σ vs j]
      simp [Ne.symm hj]
theorem wipeE_length (ρ : Env') : ∀ vs : List Nat, (wipeE ρ vs).length = ρ.length
  | [] => rfl
  | v :: vs => by unfold wipeE; rw [List.length_set, wipeE_length ρ vs]
theorem wipeE_get (ρ : Env') : ∀ (vs : List Nat) (j : Nat), (wipeE ρ vs)[j]? = if j ∈ vs then (if j < ρ.length then some .un else none) else ρ[j]?
  | [], j => by simp [wipeE]
  | v :: vs, j => by
    unfold wipeE
    by_cases hj : v = j
    · subst hj
      by_cases hl : v < ρ.length
      · rw [List.getElem?_set_self (by rw [wipeE_length]; exact hl)]
        simp [hl]
      · rw [List.getElem?_eq_none (by rw [List.length_set, wipeE_length]; omega)]
        simp [hl]
    · rw [List.getElem?_set_ne hj, wipeE_get ρ vs j]
      simp [Ne.symm hj]
theorem backE_length (ρ ρ0 : Env') : ∀ vs : List Nat, (backE ρ ρ0 vs).length = ρ.length
  | [] => rfl
  | v :: vs => by unfold backE; rw [List.length_set, backE_length ρ ρ0 vs]
theorem backE_get (ρ ρ0 : Env') : ∀ (vs : List Nat) (j : Nat), (backE ρ ρ0 vs)[j]? = if j ∈ vs then (if j < ρ.length then some (match ρ0[j]? with
    | some (.fz x) => .fz x
    | _ => .un) else none) else ρ[j]?
  | [], j => by simp [backE]
  | v :: vs, j => by
    unfold backE
    by_cases hj : v = j
    · subst hj
      by_cases hl : v < ρ.length
      · rw [List.getElem?_set_self (by rw [backE_length]; exact hl)]
        simp [hl]
      · rw [List.getElem?_eq_none (by rw [List.length_set, backE_length]; omega)]
        simp [hl]
    · rw [List.getElem?_set_ne hj, backE_get ρ ρ0 vs j]
      simp [Ne.symm hj]
theorem wipe_eq {σ σ' : St} {vs : List Nat} (hl : σ'.length = σ.length) (h : ∀ j, j ∉ vs → σ'[j]? = σ[j]?) : wipe σ' vs = wipe σ vs := by
  apply List.ext_getElem?
  intro j
  rw [wipe_get, wipe_get, hl]
  by_cases hj : j ∈ vs
  · rw [if_pos hj, if_pos hj]
  · rw [if_neg hj, if_neg hj]
    exact h j hj
theorem ER.wipe (er : ER c F H σ ρ) (vs : List Nat) : ER c F H (L2.wipe σ vs) (wipeE ρ vs) := by
  refine ⟨er.sub, by rw [wipe_length, wipeE_length]; exact er.len, fun j o s h1 h2 => ?_, fun j k s t p h1 h2 h3 h4 h5 h6 => ?_, er.mrk⟩
  · rw [wipe_get] at h1
    rw [wipeE_get] at h2
    by_cases hj : j ∈ vs
    · rw [if_pos hj] at h2
      split at h2
      · cases h2; exact True.intro
      · cases h2
    · rw [if_neg hj] at h1 h2
      exact er.slot j o s h1 h2
  · have get : ∀ {j s}, (wipeE ρ vs)[j]? = some s → s.own = true → j ∉ vs ∧ ρ[j]? = some s := fun {j s} h3 h5 => by
      rw [wipeE_get] at h3
      by_cases hj : j ∈ vs
      · rw [if_pos hj] at h3
        split at h3
        · cases h3; cases h5
        · cases h3
      · rw [if_neg hj] at h3
        exact ⟨hj, h3⟩
    obtain ⟨n1, g3⟩ := get h3 h5
    obtain ⟨n2, g4⟩ := get h4 h6
    rw [wipe_get, if_neg n1] at h1
    rw [wipe_get, if_neg n2] at h2
    exact er.dis j k s t p h1 h2 g3 g4 h5 h6
theorem own_wipe {vs : List Nat} {p : Addr} (h : Own (L2.wipe σ vs) (wipeE ρ vs) p) : Own σ ρ p := by
  obtain ⟨j, s, h1, h2, h3⟩ := h
  rw [wipeE_get] at h2
  rw [wipe_get] at h1
  by_cases hj : j ∈ vs
  · rw [if_pos hj] at h2
    split at h2
    · cases h2; cases h3
    · cases h2
  · rw [if_neg hj] at h1 h2
    exact ⟨j, s, h1, h2, h3⟩
theorem tg_name (i : Nat) : TgOk c [i] (gName i) (gN i) := fun F H σ ρ ρ' x v Q er r e q => by
  cases e
  refine q (σ.set i (some x)) (er.set r) (fun p h => own_set h) (wipe_eq (by rw [List.length_set]) fun j hj => ?_) fun j hj => ?_
  · exact List.getElem?_set_ne (by simpa using Ne.symm (by simpa using hj))
  · exact List.getElem?_set_ne (by simpa using Ne.symm (by simpa using hj))
/-- several names, from the left -/
inductive TgsOk (c : Cn) : List Nat → TGs → Prop
  | nil : TgsOk c [] gNil
  | cons {i : Nat} {is : List Nat} {g : TGs} (r : TgsOk c is g) : TgsOk c (i :: is) (gCons (gName i) g)
theorem tgs_run {is : List Nat} {g : TGs} (h : TgsOk c is g) : ∀ {σ : St} {ρ ρ' : Env'} {ws : List V} {vs : List PV} {Q : St → Hp → Prop}, ER c F H σ ρ → Reps c F ws vs → setAll is vs ρ = some ρ' →
    (∀ σ', ER c F H σ' ρ' → (∀ p, Own σ' ρ' p → Own σ ρ p) → σ'.length = σ.length → (∀ j, j ∉ is → σ'[j]? = σ[j]?) → Q σ' H) → g ws σ H Q := by
  induction h with
  | nil =>
    intro σ ρ ρ' ws vs Q er r e q
    cases r with
    | nil => cases e; exact ⟨rfl, q σ er (fun _ h => h) rfl fun _ _ => rfl⟩
    | cons h r => cases e
  | @cons i is g r ih =>
    intro σ ρ ρ' ws vs Q er rp e q
    cases rp with
    | nil => cases e
    | @cons w v ws vs h rs =>
      refine ⟨w, ws, rfl, ih (er.set h) rs e fun σ' er' ow hl nj => q σ' er' (fun p h => own_set (ow p h)) (by rw [hl, List.length_set]) fun j hj => ?_⟩
      rw [nj j fun z => hj (List.mem_cons_of_mem _ z), List.getElem?_set_ne fun z : i = j => hj (by rw [← z]; exact List.mem_cons_self)]
theorem tg_tup {is : List Nat} {g : TGs} {K : PySem.W.Frag} (hk : c.K = K) (h : TgsOk c is g) : TgOk c is (gTup K is.length g) (gT is) := fun F H σ ρ ρ' x v Q er r e q => by
  cases r with
  | @tup a vs xs hF rs =>
    have e' : (if xs.length = is.length then setAll is xs ρ else none) = some ρ' := e
    by_cases hl : xs.length = is.length
    · rw [if_pos hl] at e'
      refine ⟨a, vs, rfl, SqT.of (er.sub _ _ hF), by rw [rs.length]; exact hl, tgs_run h er rs e' fun σ' er' ow hl nj => q σ' er' ow (wipe_eq hl nj) nj⟩
    · rw [if_neg hl] at e'
      cases e'
  | _ => cases e
end
end VL

set_option Elab.async false
set_option linter.all false
set_option maxRecDepth 100000
set_option maxHeartbeats 1000000
/-! VL, part 6: what is walked, comprehensions. -/
namespace VL
open PySem PySem.Spec PyProof.Rows L2

/-! ### what is walked: its items, from the frozen part F -/
structure Wk (c : Cn) (J : It) (F : Hp) (xs : List PV) : Prop where
  go : ∀ (i : Nat) (x : PV) (H : Hp), xs[i]? = some x → Same F H → J.go i H ∧ ∀ (w : V) (H' F1 : Hp), Same F F1 → Same F1 H → J.yld i H w H' → ∃ F', Grow F1 H F' H' ∧ Rep c F' w x
  stop : ∀ H, Same F H → J.stop xs.length H
abbrev GI := Env' → Wp XE' (List PV × Env')
def OkI (c : Cn) (σ : St) (ρ : Env') (F H : Hp) (R : It → Hp → Prop) : List PV × Env' → Prop := fun r => ∀ J F' H', StpE c σ ρ F H r.2 F' H' → Wk c J F' r.1 → R J H'
def tI (c : Cn) (W : WX) (g : GI) : TI := fun σ H R => ∃ ρ F, ER c F H σ ρ ∧ (g ρ).run (OkI c σ ρ F H R) (ErE c W σ ρ F H)
/-- the items of a list, a tuple, a text -/
def items : PV → Option (List PV)
  | .lst _ xs => some xs
  | .tup xs => some xs
  | .str x => some (x.cps.toList.map fun k => .str ⟨#[k]⟩)
  | .scr ns => some (ns.map .int)
  | _ => none
def iSeq (g : GE) : GI := fun ρ => (g ρ).bind fun a => lift' (items a.1) a.2
def iRange (n : PV) : Option (List PV) := match n with
  | .int n => if n.natAbs < 4611686018427387904 then some ((List.range n.toNat).map fun (k : Nat) => PV.int k) else none
  | _ => none
def iRng (g : GE) : GI := fun ρ => (g ρ).bind fun a => lift' (iRange a.1) a.2
def iRange2 (m n : PV) : Option (List PV) := match m, n with
  | .int m, .int n => if m.natAbs < 4611686018427387904 ∧ n.natAbs < 4611686018427387904 then some ((List.range (n - m).toNat).map fun (k : Nat) => PV.int (m + k)) else none
  | _, _ => none
def iRng2' (g h : GE) : GI := fun ρ => (g ρ).bind fun a => (h a.2).bind fun b => lift' (iRange2 a.1 b.1) b.2
section
variable {c : Cn}
theorem wk_list {F : Hp} {a : Addr} {vs : List V} {xs : List PV} (h : SqL c.K F a vs) (r : Reps c F vs xs) (uniq : ∀ (H : Hp) (ys : List V), Same F H → SqL c.K H a ys → True) : Wk c (Itl c.K a) F xs where
  go := fun i x H hx s => by
    obtain ⟨v, h1, h2⟩ := r.get hx
    exact ⟨⟨vs, v, s.seq h, h1⟩, fun w H' F1 s1 s2 ⟨e, q⟩ => by
      subst e
      have e2 := q vs (s.seq h)
      rw [h1] at e2
      cases e2
      exact ⟨F1, Grow.refl s2, h2.mono s1⟩⟩
  stop := fun H s => ⟨vs, s.seq h, by rw [r.length]; exact Nat.le_refl _⟩
theorem Same.sqT {K : PySem.W.Frag} {H H' : Hp} {a : Addr} {xs : List V} (e : Same H H') (h : SqT K H a xs) : SqT K H' a xs := by
  rcases h with (h | ⟨o, h⟩) | h
  · exact .inl (.inl (e _ _ h))
  · exact .inl (.inr ⟨o, e _ _ h⟩)
  · exact .inr h
theorem wk_tup {F : Hp} {a : Addr} {vs : List V} {xs : List PV} (h : SqT c.K F a vs) (r : Reps c F vs xs) : Wk c (Itt c.K a) F xs where
  go := fun i x H hx s => by
    obtain ⟨v, h1, h2⟩ := r.get hx
    exact ⟨⟨vs, v, Same.sqT s h, h1⟩, fun w H' F1 s1 s2 ⟨e, q⟩ => by
      subst e
      have e2 := q vs (Same.sqT s h)
      rw [h1] at e2
      cases e2
      exact ⟨F1, Grow.refl s2, h2.mono s1⟩⟩
  stop := fun H s => ⟨vs, Same.sqT s h, by rw [r.length]; exact Nat.le_refl _⟩
theorem wk_str {F : Hp} (x : Str) : Wk c (Its x) F (x.cps.toList.map fun k => PV.str ⟨#[k]⟩) where
  go := fun i y H hy s => by
    rw [List.getElem?_map] at hy
    obtain ⟨k, h1, rfl⟩ := Option.map_eq_some_iff.mp hy
    have h2 : x.cps[i]? = some k := by rw [← Array.getElem?_toList]; exact h1
    refine ⟨(Array.getElem?_eq_some_iff.mp h2).1, fun w H' F1 s1 s2 ⟨e, k', h3, e2⟩ => ?_⟩
    subst e
    rw [h2] at h3
    cases h3
    subst e2
    exact ⟨F1, Grow.refl s2, .str _⟩
  stop := fun H s => by
    show x.cps.size ≤ _
    rw [List.length_map, Array.length_toList]
    exact Nat.le_refl _
theorem wk_rng {F : Hp} (lo : Int) (n : Nat) : Wk c (Itr lo n) F ((List.range n).map fun (k : Nat) => PV.int (lo + k)) where
  go := fun i y H hy s => by
    rw [List.getElem?_map] at hy
    obtain ⟨k, h1, rfl⟩ := Option.map_eq_some_iff.mp hy
    obtain ⟨h2, h3⟩ := List.getElem?_eq_some_iff.mp h1
    rw [List.length_range] at h2
    rw [List.getElem_range] at h3
    subst h3
    refine ⟨h2, fun w H' F1 s1 s2 ⟨e, e2⟩ => ?_⟩
    subst e e2
    exact ⟨F1, Grow.refl s2, .int _⟩
  stop := fun H s => by
    show n ≤ _
    rw [List.length_map, List.length_range]
    exact Nat.le_refl _
end
section
variable {c : Cn} {X : Cx} {W : WX} {tg a b : Expr} {ga gb : GE} {pos p : Pos}
theorem imp_PI {iter : Expr} {w w' : TI} (h : PI X tg iter w) (f : ∀ σ H R, w' σ H R → w σ H R) : PI X tg iter w' := ⟨fun pins s σ H R I hw => h.run pins s σ H R I (f σ H R hw)⟩
/-- a list, a tuple or a text -/
def iAny (K : PySem.W.Frag) (tl : TE) : TI := fun σ H R => tl σ H fun x H1 => (∃ a xs, x = .ref a ∧ SqL K H1 a xs ∧ R (Itl K a) H1) ∨ ((∃ a xs, x = .ref a ∧ SqT K H1 a xs ∧ R (Itt K a) H1) ∨ ∃ y, x = .str y ∧ R (Its y) H1)
theorem pi_any {l : Expr} {tl : TE} (hl : PE X l tl) : PI X tg l (iAny X.K tl) := by
  refine ⟨fun pins s σ H R I h => ?_⟩
  refine thn (hl.run pins s σ H _ I h) fun v s1 z => ?_
  obtain ⟨x, H1, I1, r1, q1⟩ := z
  rcases q1 with ⟨a, xs, e, hq, q⟩ | ⟨a, xs, e, hq, q⟩ | ⟨y, e, q⟩
  · subst e
    cases r1
    obtain ⟨its, rv, pl, hz⟩ := I1.list hq
    exact wpAny_pyIter_list pl.isList (pi_one (tk := s1.toks) I1 _ (turn_list a _) ⟨_, Heap.get?_push_size _ rfl, rfl, rfl⟩ q)
  · subst e
    cases r1
    obtain ⟨its, rv, pl, hz⟩ := I1.tuple hq
    exact wpAny_pyIter_tuple (show s1.heap.IsTuple a its.toArray from pl) (pi_one (tk := s1.toks) I1 _ (turn_tuple a _) ⟨_, Heap.get?_push_size _ rfl, rfl, rfl⟩ q)
  · subst e
    obtain ⟨t, rfl⟩ := r1
    cases ha : y.cps.all (· < 128) with
    | false => exact wpAny_pyIter_wide ha (pi_one (tk := s1.toks) I1 _ (turn_str _ y t "str_iterator" (.inr rfl)) ⟨_, Heap.get?_push_size _ rfl, rfl, rfl⟩ q)
    | true => exact wpAny_pyIter_ascii ha (pi_one (tk := s1.toks) I1 _ (turn_str _ y t "str_ascii_iterator" (.inl rfl)) ⟨_, Heap.get?_push_size _ rfl, rfl, rfl⟩ q)
theorem vi_seq (hk : c.K = X.K) (ha : PE X a (tE c W ga)) : PI X tg a (tI c W (iSeq ga)) := imp_PI (pi_any ha) fun σ H R ⟨ρ, F, er, z⟩ => by
  refine tE_bind er z fun v ρ1 w F1 H1 st rep h1 => ?_
  obtain ⟨xs, e, h1⟩ := lift'_run h1
  rw [← hk]
  cases rep with
  | lst h r _ => cases e; exact .inl ⟨_, _, rfl, SqL.of (st.2.sub _ _ h), h1 _ F1 H1 st (wk_list (SqL.of h) r fun _ _ _ _ => trivial)⟩
  | scr h => cases e; exact .inl ⟨_, _, rfl, st.2.sub.seq h, h1 _ F1 H1 st (wk_list h (Reps.ofInts _) fun _ _ _ _ => trivial)⟩
  | tup h r => cases e; exact .inr (.inl ⟨_, _, rfl, SqT.of (st.2.sub _ _ h), h1 _ F1 H1 st (wk_tup (SqT.of h) r)⟩)
  | str x => cases e; exact .inr (.inr ⟨x, rfl, h1 _ F1 H1 st (wk_str x)⟩)
  | _ => cases e
theorem vi_rng (hg : Gl X "range") (hm : X.mg "range" = none) (ha : PE X a (tE c W ga)) (hs : starEach [a] X.env = [(false, eval a X.env)] := by rfl) : PI X tg (.Call (.Name "range" p) [a] [] pos) (tI c W (iRng ga)) :=
  imp_PI (pi_range1 hg hm (va_cons ha va_nil hs) hs) fun σ H R ⟨ρ, F, er, z⟩ => by
    refine tA_bind (k := fun a => lift' (iRange (a.1.headD .non)) a.2) (g := aCons ga aNil) er z fun v ρ1 ws F1 H1 st rep hl h1 => ?_
    obtain ⟨xs, e, h1⟩ := lift'_run h1
    cases rep with
    | nil => cases hl
    | @cons w v ws vs h r =>
      cases r with
      | cons _ _ => cases hl
      | nil =>
        cases h with
        | int n =>
          have e' : (if n.natAbs < 4611686018427387904 then some ((List.range n.toNat).map fun (k : Nat) => PV.int k) else none) = some xs := e
          by_cases hn' : n.natAbs < 4611686018427387904
          · rw [if_pos hn'] at e'
            cases e'
            refine ⟨n, rfl, by omega, by omega, h1 _ F1 H1 st ?_⟩
            have q := wk_rng (c := c) (F := F1) 0 n.toNat
            simpa using q
          · rw [if_neg hn'] at e'
            cases e'
        | _ => cases e
theorem vi_rng2 (hg : Gl X "range") (hm : X.mg "range" = none) (ha : PE X a (tE c W ga)) (hb : PE X b (tE c W gb)) (hs : starEach [a, b] X.env = [(false, eval a X.env), (false, eval b X.env)] := by rfl) (hs2 : starEach [b] X.env = [(false, eval b X.env)] := by rfl) :
    PI X tg (.Call (.Name "range" p) [a, b] [] pos) (tI c W (iRng2' ga gb)) :=
  imp_PI (pi_range2 hg hm (va_cons ha (va_cons hb va_nil hs2) (by rw [hs, hs2])) hs hs2) fun σ H R ⟨ρ, F, er, z⟩ => by
    refine tA_bind (k := fun a => lift' (iRange2 (a.1.headD .non) (a.1.tail.headD .non)) a.2) (g := aCons ga (aCons gb aNil)) er z fun v ρ1 ws F1 H1 st rep hl h1 => ?_
    obtain ⟨xs, e, h1⟩ := lift'_run h1
    cases rep with
    | nil => cases hl
    | @cons w v ws vs h r =>
      cases r with
      | nil => cases hl
      | @cons w2 v2 ws vs h2 r =>
        cases r with
        | cons _ _ => cases hl
        | nil =>
          cases h with
          | int m =>
            cases h2 with
            | int n =>
              have e' : (if m.natAbs < 4611686018427387904 ∧ n.natAbs < 4611686018427387904 then some ((List.range (n - m).toNat).map fun (k : Nat) => PV.int (m + k)) else none) = some xs := e
              by_cases hn' : m.natAbs < 4611686018427387904 ∧ n.natAbs < 4611686018427387904
              · rw [if_pos hn'] at e'
                cases e'
                exact ⟨m, n, rfl, by obtain ⟨a, b⟩ := hn'; exact ⟨by omega, by omega, by omega, by omega⟩, h1 _ F1 H1 st (wk_rng m (n - m).toNat)⟩
              · rw [if_neg hn'] at e'
                cases e'
            | _ => cases e
          | _ => cases h2 <;> cases e
end

/-! ### comprehensions -/
def noEx {α : Type} (m : Wp XE' α) : Wp XE' α := ⟨fun K _ => m.run K fun _ => False, fun h _ x => m.mono h (fun _ z => z) x⟩
@[simp] theorem noEx_ret {α : Type} (a : α) : noEx (.ret a) = .ret a := (rfl)
@[simp] theorem noEx_run {α : Type} (m : Wp XE' α) (K : α → Prop) (E : XE' → Prop) : (noEx m).run K E = m.run K fun _ => False := (rfl)
def lcLoop (is : List Nat) (f : GG) (gt : GT) (ge : GE) : List PV → Env' → Wp XE' (List PV × Env')
  | [], ρ => .ret ([], ρ)
  | x :: xs, ρ => match f x (wipeE ρ is) with
    | none => .stuck
    | some ρ1 => (gt ρ1).bind fun b => if b.1 = true then (ge b.2).bind fun y => (lcLoop is f gt ge xs y.2).bind fun r => .ret (y.1 :: r.1, r.2) else lcLoop is f gt ge xs b.2
def frozenAt (ρ : Env') (is : List Nat) : Bool := is.all fun i => !ownAt ρ i
def lLc (is : List Nat) (gi : GI) (f : GG) (gt : GT) (ge : GE) : GL := fun ρ => (gi ρ).bind fun a => if a.1.length ≤ sizeLine ∧ frozenAt a.2 is = true then (noEx (lcLoop is f gt ge a.1 a.2)).bind fun r => .ret (r.1, backE r.2 a.2 is) else .stuck
def W0 : WX := fun _ _ _ _ => False
theorem takes_W0 {X : Cx} : Takes X W0 := takes0
def tTs (c : Cn) (W : WX) (g : GT) : TT := tT c W g
def gYes : GT := fun ρ => .ret (true, ρ)
section
variable {c : Cn} {X : Cx} {W : WX}
theorem imp_PTs {e : List Expr} {t t' : TT} (h : PTs X e t) (f : ∀ σ H Q, t' σ H Q → t σ H Q) : PTs X e t' := ⟨fun pins s σ H Q I hw => h.run pins s σ H Q I (f σ H Q hw)⟩
theorem vts_nil : PTs X [] (tT c W gYes) := imp_PTs pts_nil fun σ H Q ⟨ρ, F, er, z⟩ => z F H (StpE.refl er)
theorem vts_one {e : Expr} {g : GT} (h : PT X e (tT c W g)) : PTs X [e] (tT c W g) := pts_one h
/-- one more that is excepted -/
theorem Stp.add {F H F' H' : Hp} {S S' : Addr → Prop} (D : Addr) (st : Stp F H S F' H' S') : Stp F H (fun p => S p ∨ p = D) F' H' (fun p => S' p ∨ p = D) :=
  ⟨st.ff, fun p o h n => st.hh p o h fun z => n (.inl z), st.th, fun p h => h.elim (fun z => (st.ow p z).imp .inl id) fun z => .inl (.inr z)⟩
theorem er_upd {F H : Hp} {σ : St} {ρ : Env'} {D : Addr} {o : HO} (er : ER c F H σ ρ) (hF : F D = none) (n : ¬ Own σ ρ D) : ER c F (upd H D o) σ ρ := by
  refine ⟨fun b u h => by rw [upd_ne (ne_of_none h hF)]; exact er.sub _ _ h, er.len, fun j o' s h1 h2 => ?_, er.dis, fun p b => by
    by_cases e : p = D
    · subst e; exact ⟨o, upd_same⟩
    · rw [upd_ne e]; exact er.mrk p b⟩
  have q := er.slot j o' s h1 h2
  have ne : ∀ p, o' = some (.ref p) → s.own = true → p ≠ D := fun p e1 e2 e3 => n (by subst e3; subst e1; exact ⟨j, s, h1, h2, e2⟩)
  cases s with
  | un => trivial
  | fz x => exact q
  | ow ys => obtain ⟨p, ws, e, f, h, rp⟩ := q; exact ⟨p, ws, e, f, by rw [upd_ne (ne p e rfl)]; exact h, rp⟩
  | bx n => obtain ⟨p, ws, e, f, h, rp⟩ := q; exact ⟨p, ws, e, f, by rw [upd_ne (ne p e rfl)]; exact h, rp⟩
/-- the slots of a block's own names are put back -/
theorem er_back' {F H F' H' : Hp} {σ : St} {ρ0 ρ : Env'} {is : List Nat} (er0 : ER c F H σ ρ0) (ff : Same F F') (er : ER c F' H' (wipe σ is) ρ) (fr : frozenAt ρ0 is = true) : ER c F' H' σ (backE ρ ρ0 is) ∧ ∀ p, Own σ (backE ρ ρ0 is) p → Own (wipe σ is) ρ p := by
  have get : ∀ {j s}, (backE ρ ρ0 is)[j]? = some s → s.own = true → j ∉ is ∧ ρ[j]? = some s := fun {j s} h3 h5 => by
    rw [backE_get] at h3
    by_cases hj : j ∈ is
    · rw [if_pos hj] at h3
      split at h3
      · cases h3
        split at h5 <;> cases h5
      · cases h3
    · rw [if_neg hj] at h3
      exact ⟨hj, h3⟩
  have nw : ∀ {j : Nat}, j ∉ is → (wipe σ is)[j]? = σ[j]? := fun {j} hj => by rw [wipe_get, if_neg hj]
  refine ⟨⟨er.sub, by rw [backE_length, ← er.len, wipe_length], fun j o s h1 h2 => ?_, fun j k s t p h1 h2 h3 h4 h5 h6 => ?_, er.mrk⟩, fun p ⟨j, s, h1, h2, h3⟩ => ?_⟩
  · rw [backE_get] at h2
    by_cases hj : j ∈ is
    · rw [if_pos hj] at h2
      split at h2
      · cases h2
        split
        · rename_i x hx
          obtain ⟨w, e, r⟩ := er0.slot j o _ h1 hx
          exact ⟨w, e, r.mono ff⟩
        · trivial
      · cases h2
    · rw [if_neg hj] at h2
      exact er.slot j o s (by rw [nw hj]; exact h1) h2
  · obtain ⟨n1, g3⟩ := get h3 h5
    obtain ⟨n2, g4⟩ := get h4 h6
    exact er.dis j k s t p (by rw [nw n1]; exact h1) (by rw [nw n2]; exact h2) g3 g4 h5 h6
  · obtain ⟨n1, g⟩ := get h2 h3
    exact ⟨j, s, by rw [nw n1]; exact h1, g, h3⟩
theorem wipe_idem (σ : St) (is : List Nat) : wipe (wipe σ is) is = wipe σ is := wipe_eq (wipe_length σ is) fun j hj => by rw [wipe_get, if_neg hj]
theorem backE_wipe (ρ ρ0 : Env') (is : List Nat) : backE (wipeE ρ is) ρ0 is = backE ρ ρ0 is := by
  apply List.ext_getElem?
  intro j
  rw [backE_get, backE_get, wipeE_length, wipeE_get]
  by_cases hj : j ∈ is
  · rw [if_pos hj, if_pos hj]
  · rw [if_neg hj, if_neg hj, if_neg hj]
theorem Stp.less {F H F' H' : Hp} {S S' S2 : Addr → Prop} (st : Stp F H S F' H' S') (h : ∀ p, S2 p → S' p) : Stp F H S F' H' S2 := ⟨st.ff, st.hh, st.th, fun p z => st.ow p (h p z)⟩
theorem Stp.more {F H F' H' : Hp} {S S' S2 : Addr → Prop} (st : Stp F H S F' H' S') (h : ∀ p, S p → S2 p) : Stp F H S2 F' H' S' := ⟨st.ff, fun p o e n => st.hh p o e fun z => n (h p z), st.th, fun p z => (st.ow p z).imp (h p) id⟩
theorem Stp.put {F H : Hp} {S : Addr → Prop} {D : Addr} {o o' : HO} (h : H D = some o) : Stp F H (fun p => S p ∨ p = D) F (upd H D o') (fun p => S p ∨ p = D) := by
  refine ⟨Same.refl F, fun p u e n => ⟨?_, fun z => z⟩, fun p u e => ?_, fun p z => .inl z⟩
  · rw [upd_ne fun z => n (.inr z)]; exact e
  · by_cases hp : p = D
    · subst hp; exact ⟨o', upd_same⟩
    · exact ⟨u, by rw [upd_ne hp]; exact e⟩
/-- where a comprehension stands behind i turns -/
structure LcAt (c : Cn) (is : List Nat) (f : GG) (gt : GT) (ge : GE) (σ : St) (ρ1 : Env') (F1 H1 : Hp) (D : Addr) (xs : List PV) (Z : List PV × Env' → Prop) (i : Nat) (H' : Hp) : Prop where
  ex : ∃ (acc : List V) (accP : List PV) (ρ' : Env') (F' : Hp), acc.length ≤ i ∧ H' D = some (.lst acc) ∧ F' D = none ∧ ¬ Own (wipe σ is) (wipeE ρ' is) D ∧
    Stp F1 H1 (Own (wipe σ is) (wipeE ρ1 is)) F' H' (fun p => Own (wipe σ is) (wipeE ρ' is) p ∨ p = D) ∧ ER c F' H' (wipe σ is) (wipeE ρ' is) ∧ Reps c F' acc accP ∧
    (lcLoop is f gt ge (xs.drop i) ρ').run (fun q => Z (accP ++ q.1, q.2)) (fun _ => False)
theorem tT_bind0 {σ : St} {ρ : Env'} {F H : Hp} {g : GT} {α : Type} {k : Bool × Env' → Wp XE' α} {R : Bool → Hp → Prop} {Z : α → Prop} (er : ER c F H σ ρ) (h : ((g ρ).bind k).run Z fun _ => False)
    (hk : ∀ v ρ1 F1 H1, StpE c σ ρ F H ρ1 F1 H1 → ((k (v, ρ1)).run Z fun _ => False) → R v H1) : tT c W0 g σ H R :=
  ⟨ρ, F, er, (g ρ).mono (fun r h1 F1 H1 st => hk r.1 r.2 F1 H1 st h1) (fun _ z => z.elim) h⟩
theorem tE_bind0 {σ : St} {ρ : Env'} {F H : Hp} {g : GE} {α : Type} {k : PV × Env' → Wp XE' α} {R : VK} {Z : α → Prop} (er : ER c F H σ ρ) (h : ((g ρ).bind k).run Z fun _ => False)
    (hk : ∀ v ρ1 w F1 H1, StpE c σ ρ F H ρ1 F1 H1 → Rep c F1 w v → ((k (v, ρ1)).run Z fun _ => False) → R w H1) : tE c W0 g σ H R :=
  ⟨ρ, F, er, (g ρ).mono (fun r h1 w F1 H1 st rep => hk r.1 r.2 w F1 H1 st rep h1) (fun _ z => z.elim) h⟩
theorem lc_turn {is : List Nat} {g : TG} {f : GG} {gt : GT} {ge : GE} {σ : St} {ρ1 : Env'} {F1 H1 : Hp} {D : Addr} {xs : List PV} {Z : List PV × Env' → Prop} {i : Nat} {H' : Hp} {J : It} (wk : Wk c J F1 xs) (hz : xs.length ≤ sizeLine) (hgf : TgOk c is g f)
    (h : LcAt c is f gt ge σ ρ1 F1 H1 D xs Z i H') (hi : i < xs.length) : J.go i H' ∧ ∀ x Hy, J.yld i H' x Hy → g x (wipe σ is) Hy fun σ2 H2 => wipe σ2 is = wipe σ is ∧ tT c W0 gt σ2 H2 fun b H3 =>
      if b = true then tE c W0 ge σ2 H3 fun y H4 => ∃ acc, H4 D = some (.lst acc) ∧ acc.length < sizeLine ∧ LcAt c is f gt ge σ ρ1 F1 H1 D xs Z (i + 1) (upd H4 D (.lst (acc ++ [y]))) else LcAt c is f gt ge σ ρ1 F1 H1 D xs Z (i + 1) H3 := by
  obtain ⟨acc, accP, ρ', F', hl, hD, hF, no, st, er, rep, run⟩ := h.ex
  have hx : xs[i]? = some xs[i] := List.getElem?_eq_getElem hi
  have same : Same F1 H' := st.ff.trans er.sub
  obtain ⟨go, yl⟩ := wk.go i xs[i] H' hx same
  refine ⟨go, fun x Hy y => ?_⟩
  obtain ⟨Fy, gr, rx⟩ := yl x Hy F' st.ff er.sub y
  have ery := er.grow gr
  rw [List.drop_eq_getElem_cons hi] at run
  unfold lcLoop at run
  cases hf : f xs[i] (wipeE ρ' is) with
  | none => rw [hf] at run; exact run.elim
  | some ρ2 =>
    rw [hf] at run
    dsimp only at run
    refine hgf Fy Hy (wipe σ is) (wipeE ρ' is) ρ2 x xs[i] _ ery rx hf fun σ2 er2 ow2 w2 nj => ?_
    have w3 : wipe σ2 is = wipe σ is := w2.trans (wipe_idem σ is)
    refine ⟨w3, ?_⟩
    have hDy : Hy D = some (.lst acc) := gr.hh _ _ hD
    have hFy : Fy D = none := gr.nf _ _ hD hF
    have no2 : ¬ Own σ2 ρ2 D := fun z => no (ow2 D z)
    have stC : Stp F1 H1 (Own (wipe σ is) (wipeE ρ1 is)) Fy Hy (fun p => Own σ2 ρ2 p ∨ p = D) := (st.trans (gr.stp _)).less fun p z => z.imp (ow2 p) id
    refine tT_bind0 er2 run fun b ρ3 F3 H3 st3 run3 => ?_
    have d3 := st3.1.hh D _ hDy no2
    have no3 : ¬ Own σ2 ρ3 D := fun z => (st3.1.ow D z).elim no2 fun q => by rw [hDy] at q; cases q
    have st3' := stC.trans (st3.1.add D)
    have noF : ∀ {ρ : Env'}, ¬ Own σ2 ρ D → ¬ Own (wipe σ is) (wipeE ρ is) D := fun {ρ} n z => n (own_wipe (vs := is) (by rw [w3]; exact z))
    cases b with
    | false =>
      simp only [Bool.false_eq_true, if_false] at run3 ⊢
      refine ⟨acc, accP, ρ3, F3, by omega, d3.1, d3.2 hFy, noF no3, st3'.less fun p z => z.imp (fun z => own_wipe (vs := is) (by rw [w3]; exact z)) id, by rw [← w3]; exact st3.2.wipe is, rep.mono (gr.ff.trans st3.1.ff), run3⟩
    | true =>
      simp only [if_true] at run3 ⊢
      refine tE_bind0 st3.2 run3 fun yv ρ4 y F4 H4 st4 r4 run4 => ?_
      have d4 := st4.1.hh D _ d3.1 no3
      have no4 : ¬ Own σ2 ρ4 D := fun z => (st4.1.ow D z).elim no3 fun q => by rw [d3.1] at q; cases q
      refine ⟨acc, d4.1, by omega, ?_⟩
      have hF4 : F4 D = none := d4.2 (d3.2 hFy)
      have er4 : ER c F4 H4 (wipe σ is) (wipeE ρ4 is) := by rw [← w3]; exact st4.2.wipe is
      refine ⟨acc ++ [y], accP ++ [yv], ρ4, F4, by rw [List.length_append]; simp; omega, upd_same, hF4, noF no4, ?_, er_upd er4 hF4 (noF no4), (rep.mono (gr.ff.trans (st3.1.ff.trans st4.1.ff))).append (.cons r4 .nil), ?_⟩
      · exact ((st3'.trans (st4.1.add D)).trans (Stp.put (S := Own σ2 ρ4) (o' := .lst (acc ++ [y])) d4.1)).less fun p z => z.imp (fun z => own_wipe (vs := is) (by rw [w3]; exact z)) id
      · refine Wp.mono _ (fun q z => ?_) (fun _ z => z) run4
        have z' : Z (accP ++ (yv :: q.1), q.2) := z
        rw [List.append_assoc]
        exact z'
theorem vl_lc {elt tg iter : Expr} {ifs : List Expr} {scope : Scope} {own : List (Str × Nat)} {is : List Nat} {pos : Pos} {gi : GI} {g : TG} {f : GG} {gt : GT} {ge : GE} (hc : X.calm = true) (hN : X.N.Nodup) (hi : PI X tg iter (tI c W gi)) (ok : BlkOk X.N X.env.scope scope own)
    (hg : ∀ (s : Shared) (H : Hp) (C : Addr) (cl : List (Str × Addr)) (fp : List Addr), PG (X.blk s H scope (compEnvC scope cl C X.env) fp) tg g) (hgf : TgOk c is g f)
    (ht : ∀ (s : Shared) (H : Hp) (C : Addr) (cl : List (Str × Addr)) (fp : List Addr), PTs (X.blk s H scope (compEnvC scope cl C X.env) fp) ifs (tT c W0 gt))
    (he : ∀ (s : Shared) (H : Hp) (C : Addr) (cl : List (Str × Addr)) (fp : List Addr), PE (X.blk s H scope (compEnvC scope cl C X.env) fp) elt (tE c W0 ge)) (his : own.map (·.2) = is := by rfl) (hs : ∀ x, foldedSetIterable iter X.env x = pure x := by intro _; rfl) :
    PE X (.ListComp elt [⟨tg, iter, ifs, 0⟩] scope pos) (tL c W (lLc is gi f gt ge)) := by
  subst his
  refine imp_PE (pe_lc hc hN hi ok hg ht he hs) fun σ H Q ⟨ρ, F, er, z⟩ => ?_
  generalize own.map (·.2) = is at *
  refine ⟨ρ, F, er, (gi ρ).mono (fun r h1 J F1 H1 st wk D hD => ?_) (fun _ q => q) z⟩
  dsimp only at h1
  by_cases hz : r.1.length ≤ sizeLine ∧ frozenAt r.2 is = true
  · rw [if_pos hz] at h1
    have h2 : (lcLoop is f gt ge r.1 r.2).run (fun q => OkL c σ ρ F H Q (q.1, backE q.2 r.2 is)) (fun _ => False) := h1
    have hFD : F1 D = none := st.2.sub.free hD
    have g0 := (upd_growH (o := .lst []) st.2.sub hD).stp (Own (wipe σ is) (wipeE r.2 is))
    have no0 : ¬ Own (wipe σ is) (wipeE r.2 is) D := not_own_new (st.2.wipe is) hD
    have start : LcAt c is f gt ge σ r.2 F1 H1 D r.1 (fun q => OkL c σ ρ F H Q (q.1, backE q.2 r.2 is)) 0 (upd H1 D (.lst [])) :=
      ⟨[], [], r.2, F1, Nat.le_refl _, upd_same, hFD, no0, ⟨g0.ff, g0.hh, g0.th, fun p q => q.elim .inl fun e => .inr (by rw [e]; exact hD)⟩, er_upd (st.2.wipe is) hFD no0, .nil, h2⟩
    refine ⟨fun i m H' => m = r.1.length - i ∧ i ≤ r.1.length ∧ LcAt c is f gt ge σ r.2 F1 H1 D r.1 (fun q => OkL c σ ρ F H Q (q.1, backE q.2 r.2 is)) i H', ⟨_, rfl, Nat.zero_le _, start⟩, fun i m H' hW => ?_⟩
    obtain ⟨rfl, hle, h⟩ := hW
    by_cases hi : i < r.1.length
    · obtain ⟨go, turn⟩ := lc_turn wk hz.1 hgf h hi
      exact .inr ⟨go, fun H' => LcAt c is f gt ge σ r.2 F1 H1 D r.1 (fun q => OkL c σ ρ F H Q (q.1, backE q.2 r.2 is)) (i + 1) H', fun H' n => ⟨r.1.length - (i + 1), by omega, rfl, hi, n⟩, turn⟩
    · have e : i = r.1.length := by omega
      subst e
      obtain ⟨acc, accP, ρ', F', hl, hDv, hF, no, st', er', rep, run⟩ := h.ex
      rw [List.drop_length] at run
      have q : OkL c σ ρ F H Q (accP ++ [], backE ρ' r.2 is) := run
      rw [List.append_nil] at q
      obtain ⟨er2, ow2⟩ := er_back' st.2 st'.ff er' hz.2
      rw [backE_wipe] at er2 ow2
      refine .inl ⟨wk.stop H' (st'.ff.trans er'.sub), q D acc F' H' ⟨st.1.trans ((st'.more fun p z => own_wipe z).less fun p z => .inl (ow2 p z)), er2⟩ ?_ hF hDv (fun z => no (ow2 D z)) rep⟩
      cases e : H D with
      | none => rfl
      | some o =>
        obtain ⟨o', e'⟩ := st.1.th D o e
        rw [hD] at e'
        cases e'
  · rw [if_neg hz] at h1
    exact h1.elim
end
end VL

set_option Elab.async false
set_option linter.all false
set_option maxRecDepth 100000
set_option maxHeartbeats 1000000
/-! VL, part 7: statements, defs. -/
namespace VL
open PySem PySem.Spec PyProof.Rows L2

inductive Out where
  | nx (ρ : Env') | bk (ρ : Env') | ct (ρ : Env') | rt (v : PV) (ρ : Env')
  /-- something tagged has been changed: only what is below the mark is known; on, or back with a bool -/
  | th (o : Option Bool) (ρ : Env')
abbrev GS := Env' → Wp XE' Out
section
variable (c : Cn) (pn : Nat → Bool)
/-- a statement's step: the pinned slots keep their values -/
def StpS (σ : St) (ρ : Env') (F H : Hp) (σ' : St) (ρ' : Env') (F' H' : Hp) : Prop := Stp F H (Own σ ρ) F' H' (Own σ' ρ') ∧ ER c F' H' σ' ρ' ∧ (∀ i, pn i = true → σ'[i]? = σ[i]?) ∧ σ'.length = σ.length
structure Thw (σ : St) (ρ : Env') (H : Hp) (σ' : St) (ρ' : Env') (H' : Hp) : Prop where
  hh : ∀ p o, H p = some o → ¬ Own σ ρ p → c.B p → H' p = some o
  th : ∀ p o, H p = some o → ∃ o', H' p = some o'
  ow : ∀ p, Own σ' ρ' p → Own σ ρ p ∨ H p = none
  er : ∃ F', ER c F' H' σ' ρ'
  pn : ∀ i, pn i = true → σ'[i]? = σ[i]?
  len : σ'.length = σ.length
def OkS (σ : St) (ρ : Env') (F H : Hp) (D : Ends) : Out → Prop
  | .nx ρ' => ∀ σ' F' H', StpS c pn σ ρ F H σ' ρ' F' H' → D.nx σ' H'
  | .bk ρ' => ∀ σ' F' H', StpS c pn σ ρ F H σ' ρ' F' H' → D.bk σ' H'
  | .ct ρ' => ∀ σ' F' H', StpS c pn σ ρ F H σ' ρ' F' H' → D.ct σ' H'
  | .rt v ρ' => ∀ w σ' F' H', StpS c pn σ ρ F H σ' ρ' F' H' → Rep c F' w v → D.rt w H'
  | .th o ρ' => ∀ σ' H', Thw c pn σ ρ H σ' ρ' H' → (o = none → D.nx σ' H') ∧ ∀ b, o = some b → D.rt (.bl b) H'
def ErS (W : WX) (σ : St) (ρ : Env') (F H : Hp) : XE' → Prop := fun e => ∀ d σ' F' H', StpS c pn σ ρ F H σ' e.2 F' H' → ExD c F' H' d e.1.fs → W (.ref (c.cA e.1.k)) d σ' H'
def tS (W : WX) (g : GS) : TS := fun D σ H => ∃ ρ F, ER c F H σ ρ ∧ (g ρ).run (OkS c pn σ ρ F H D) (ErS c pn W σ ρ F H)
end
section
variable {c : Cn} {pn : Nat → Bool} {σ σ1 σ2 : St} {ρ ρ1 ρ2 : Env'} {F H F1 H1 F2 H2 : Hp} {W : WX} {D : Ends}
theorem StpS.refl (e : ER c F H σ ρ) : StpS c pn σ ρ F H σ ρ F H := ⟨Stp.refl _ _ _, e, fun _ _ => rfl, rfl⟩
theorem StpS.trans (a : StpS c pn σ ρ F H σ1 ρ1 F1 H1) (b : StpS c pn σ1 ρ1 F1 H1 σ2 ρ2 F2 H2) : StpS c pn σ ρ F H σ2 ρ2 F2 H2 := ⟨a.1.trans b.1, b.2.1, fun i h => (b.2.2.1 i h).trans (a.2.2.1 i h), b.2.2.2.trans a.2.2.2⟩
theorem StpE.s (a : StpE c σ ρ F H ρ1 F1 H1) : StpS c pn σ ρ F H σ ρ1 F1 H1 := ⟨a.1, a.2, fun _ _ => rfl, rfl⟩
theorem Thw.step (t : Thw c pn σ1 ρ1 H1 σ2 ρ2 H2) (s : StpS c pn σ ρ F H σ1 ρ1 F1 H1) : Thw c pn σ ρ H σ2 ρ2 H2 where
  hh := fun p o h n b => t.hh p o (s.1.hh p o h n).1 (fun z => (s.1.ow p z).elim n fun q => by rw [h] at q; cases q) b
  th := fun p o h => by
    obtain ⟨o1, h1⟩ := s.1.th p o h
    exact t.th p o1 h1
  ow := fun p h => by
    rcases t.ow p h with h | h
    · exact s.1.ow p h
    · refine .inr ?_
      cases q : H p with
      | none => rfl
      | some o =>
        obtain ⟨o1, h1⟩ := s.1.th p o q
        rw [h1] at h
        cases h
  er := t.er
  pn := fun i h => (t.pn i h).trans (s.2.2.1 i h)
  len := t.len.trans s.2.2.2
theorem Thw.andS (t : Thw c pn σ ρ H σ1 ρ1 H1) (s : StpS c pn σ1 ρ1 F1 H1 σ2 ρ2 F2 H2) : Thw c pn σ ρ H σ2 ρ2 H2 where
  hh := fun p o h n b => (s.1.hh p o (t.hh p o h n b) fun z => (t.ow p z).elim n fun q => by rw [h] at q; cases q).1
  th := fun p o h => (t.th p o h).elim fun o1 h1 => s.1.th p o1 h1
  ow := fun p h => by
    rcases s.1.ow p h with h | h
    · exact t.ow p h
    · refine .inr ?_
      cases q : H p with
      | none => rfl
      | some o =>
        obtain ⟨o1, h1⟩ := t.th p o q
        rw [h1] at h
        cases h
  er := ⟨F2, s.2.1⟩
  pn := fun i h => (s.2.2.1 i h).trans (t.pn i h)
  len := s.2.2.2.trans t.len
theorem Thw.trans (t : Thw c pn σ ρ H σ1 ρ1 H1) (s : Thw c pn σ1 ρ1 H1 σ2 ρ2 H2) : Thw c pn σ ρ H σ2 ρ2 H2 where
  hh := fun p o h n b => s.hh p o (t.hh p o h n b) (fun z => (t.ow p z).elim n fun q => by rw [h] at q; cases q) b
  th := fun p o h => (t.th p o h).elim fun o1 h1 => s.th p o1 h1
  ow := fun p h => by
    rcases s.ow p h with h | h
    · exact t.ow p h
    · refine .inr ?_
      cases q : H p with
      | none => rfl
      | some o =>
        obtain ⟨o1, h1⟩ := t.th p o q
        rw [h1] at h
        cases h
  er := s.er
  pn := fun i h => (s.pn i h).trans (t.pn i h)
  len := s.len.trans t.len
/-- what stands behind a change -/
def thOut : Out → Wp XE' Out
  | .nx ρ => .ret (.th none ρ)
  | .rt (.bl b) ρ => .ret (.th (some b) ρ)
  | .th o ρ => .ret (.th o ρ)
  | _ => .stuck
theorem thOut_rt {v : PV} {E : XE' → Prop} (t : Thw c pn σ ρ H σ1 ρ1 H1) (q : (thOut (.rt v ρ2)).run (OkS c pn σ ρ F H D) E) : OkS c pn σ1 ρ1 F1 H1 D (.rt v ρ2) := by
  intro w σ2 F2 H2 s rp
  cases rp with
  | bl b => exact ((show OkS c pn σ ρ F H D (.th (some b) ρ2) from q) σ2 H2 (t.andS s)).2 b rfl
  | _ => exact q.elim
theorem OkS.step {o : Out} (s : StpS c pn σ ρ F H σ1 ρ1 F1 H1) (h : OkS c pn σ ρ F H D o) : OkS c pn σ1 ρ1 F1 H1 D o := by
  cases o with
  | nx ρ' => exact fun σ' F' H' q => h σ' F' H' (s.trans q)
  | bk ρ' => exact fun σ' F' H' q => h σ' F' H' (s.trans q)
  | ct ρ' => exact fun σ' F' H' q => h σ' F' H' (s.trans q)
  | rt v ρ' => exact fun w σ' F' H' q r => h w σ' F' H' (s.trans q) r
  | th o ρ' => exact fun σ' H' q => h σ' H' (q.step s)
theorem ErS.step {e : XE'} (s : StpS c pn σ ρ F H σ1 ρ1 F1 H1) (h : ErS c pn W σ ρ F H e) : ErS c pn W σ1 ρ1 F1 H1 e := fun d σ' F' H' q x => h d σ' F' H' (s.trans q) x
theorem ErS.e {e : XE'} (h : ErS c pn W σ ρ F H e) : ErE c W σ ρ F H e := fun d F' H' q x => h d σ F' H' q.s x
theorem run_stepS {m : Wp XE' Out} (s : StpS c pn σ ρ F H σ1 ρ1 F1 H1) (h : m.run (OkS c pn σ ρ F H D) (ErS c pn W σ ρ F H)) : m.run (OkS c pn σ1 ρ1 F1 H1 D) (ErS c pn W σ1 ρ1 F1 H1) := m.mono (fun _ => OkS.step s) (fun _ => ErS.step s) h
/-- the first part of a statement is an expression's -/
theorem tE_bindS {g : GE} {k : PV × Env' → Wp XE' Out} {R : VK} (er : ER c F H σ ρ) (h : ((g ρ).bind k).run (OkS c pn σ ρ F H D) (ErS c pn W σ ρ F H))
    (hk : ∀ v ρ1 w F1 H1, StpE c σ ρ F H ρ1 F1 H1 → Rep c F1 w v → (k (v, ρ1)).run (OkS c pn σ ρ1 F1 H1 D) (ErS c pn W σ ρ1 F1 H1) → R w H1) : tE c W g σ H R :=
  ⟨ρ, F, er, (g ρ).mono (fun r h1 w F1 H1 st rep => hk r.1 r.2 w F1 H1 st rep (run_stepS st.s h1)) (fun _ z => z.e) h⟩
theorem tT_bindS {g : GT} {k : Bool × Env' → Wp XE' Out} {R : Bool → Hp → Prop} (er : ER c F H σ ρ) (h : ((g ρ).bind k).run (OkS c pn σ ρ F H D) (ErS c pn W σ ρ F H))
    (hk : ∀ v ρ1 F1 H1, StpE c σ ρ F H ρ1 F1 H1 → (k (v, ρ1)).run (OkS c pn σ ρ1 F1 H1 D) (ErS c pn W σ ρ1 F1 H1) → R v H1) : tT c W g σ H R :=
  ⟨ρ, F, er, (g ρ).mono (fun r h1 F1 H1 st => hk r.1 r.2 F1 H1 st (run_stepS st.s h1)) (fun _ z => z.e) h⟩
theorem tL_bindS {g : GL} {k : List PV × Env' → Wp XE' Out} {R : VK} (er : ER c F H σ ρ) (h : ((g ρ).bind k).run (OkS c pn σ ρ F H D) (ErS c pn W σ ρ F H))
    (hk : ∀ v ρ1 p vs F1 H1, StpE c σ ρ F H ρ1 F1 H1 → H p = none → F1 p = none → H1 p = some (.lst vs) → ¬ Own σ ρ1 p → Reps c F1 vs v → (k (v, ρ1)).run (OkS c pn σ ρ1 F1 H1 D) (ErS c pn W σ ρ1 F1 H1) → R (.ref p) H1) : tL c W g σ H R :=
  ⟨ρ, F, er, (g ρ).mono (fun r h1 p vs F1 H1 st a b d e f => hk r.1 r.2 p vs F1 H1 st a b d e f (run_stepS st.s h1)) (fun _ z => z.e) h⟩
theorem tI_bindS {g : GI} {k : List PV × Env' → Wp XE' Out} {R : It → Hp → Prop} (er : ER c F H σ ρ) (h : ((g ρ).bind k).run (OkS c pn σ ρ F H D) (ErS c pn W σ ρ F H))
    (hk : ∀ v ρ1 J F1 H1, StpE c σ ρ F H ρ1 F1 H1 → Wk c J F1 v → (k (v, ρ1)).run (OkS c pn σ ρ1 F1 H1 D) (ErS c pn W σ ρ1 F1 H1) → R J H1) : tI c W g σ H R :=
  ⟨ρ, F, er, (g ρ).mono (fun r h1 J F1 H1 st wk => hk r.1 r.2 J F1 H1 st wk (run_stepS st.s h1)) (fun _ z => z.e) h⟩
end

/-! ### blocks -/
def noE {ε ε' α : Type} (m : Wp ε α) : Wp ε' α := ⟨fun K _ => m.run K fun _ => False, fun h _ x => m.mono h (fun _ z => z) x⟩
def sSeq (g h : GS) : GS := fun ρ => (g ρ).bind fun o => match o with
  | .nx ρ1 => h ρ1
  | .th none ρ1 => (noE (h ρ1)).bind thOut
  | o => .ret o
def sNil : GS := fun ρ => .ret (.nx ρ)
def sSet (i : Nat) (g : GE) : GS := fun ρ => (g ρ).bind fun a => .ret (.nx (a.2.set i (.fz a.1)))
def sOwn (i : Nat) (g : GL) : GS := fun ρ => (g ρ).bind fun a => .ret (.nx (a.2.set i (.ow a.1)))
def sDrop (g : GE) : GS := fun ρ => (g ρ).bind fun a => .ret (.nx a.2)
def sRet (g : GE) : GS := fun ρ => (g ρ).bind fun a => .ret (.rt a.1 a.2)
def sIf (t : GT) (g h : GS) : GS := fun ρ => (t ρ).bind fun b => if b.1 = true then g b.2 else h b.2
def sPub (i : Nat) (g : GS) : GS := fun ρ => match ρ[i]? with
  | some (.ow xs) => g (ρ.set i (.fz (.lst none xs)))
  | _ => .stuck
def sBrk : GS := fun ρ => .ret (.bk ρ)
def sCnt : GS := fun ρ => .ret (.ct ρ)
/-- a, b = .. -/
def sTgt (f : GG) (g : GE) : GS := fun ρ => (g ρ).bind fun a => match f a.1 a.2 with
  | some ρ' => .ret (.nx ρ')
  | none => .stuck
section
variable {c : Cn} {X : Cx} {W : WX} {pn : Nat → Bool} {st : Stmt} {rest : List Stmt} {g h : GS} {e a b : Expr} {ge : GE} {gt : GT} {gl : GL} {pos : Pos}
theorem vss_nil : PSs X [] (tS c pn W sNil) := imp_PSs pss_nil fun D σ H ⟨ρ, F, er, z⟩ => z σ F H (StpS.refl er)
theorem vss_cons (h1 : PS X st (tS c pn W g)) (h2 : PSs X rest (tS c pn W h)) : PSs X (st :: rest) (tS c pn W (sSeq g h)) := imp_PSs (pss_cons h1 h2) fun D σ H ⟨ρ, F, er, z⟩ =>
  ⟨ρ, F, er, (g ρ).mono (fun o q => by
    cases o with
    | nx ρ1 => exact fun σ' F' H' s => ⟨ρ1, F', s.2.1, run_stepS s q⟩
    | bk ρ1 => exact q
    | ct ρ1 => exact q
    | rt v ρ1 => exact q
    | th o ρ1 => cases o with
      | none =>
        refine fun σ' H' t => ⟨fun _ => ?_, fun b z => nomatch z⟩
        obtain ⟨F1, er1⟩ := t.er
        refine ⟨ρ1, F1, er1, (h ρ1).mono (fun o q => ?_) (fun _ q => q.elim) q⟩
        cases o with
        | nx ρ2 => exact fun σ2 F2 H2 s => ((show OkS c pn σ ρ F H D (.th none ρ2) from q) σ2 H2 (t.andS s)).1 rfl
        | bk ρ2 => exact q.elim
        | ct ρ2 => exact q.elim
        | rt v ρ2 => exact thOut_rt t q
        | th o ρ2 => exact fun σ2 H2 t2 => (show OkS c pn σ ρ F H D (.th o ρ2) from q) σ2 H2 (t.trans t2)
      | some b => exact fun σ' H' t => ⟨(fun z => nomatch z), (show OkS c pn σ ρ F H D (.th (some b) ρ1) from q) σ' H' t |>.2⟩) (fun _ q => q) z⟩
theorem vss_one (h1 : PS X st (tS c pn W g)) : PSs X [st] (tS c pn W g) := pss_one h1
theorem vs_set {i : Nat} {x : Str} {pos' : Pos} (hN : X.N.Nodup) (hi : X.N[i]? = some x) (hx : Loc X.env.scope x) (hp : pn i = false) (he : PE X e (tE c W ge)) (hs : swapsWith e (some (.Name x pos')) pos.line X.env = pure false := by rfl)
    (hf : X.fn x = true ∨ X.env.scope.names.lookup x = some .local := by first | exact .inl rfl | exact .inr rfl | assumption) : PS X (.Assign [.Name x pos'] e pos) (tS c pn W (sSet i ge)) :=
  imp_PS (ps_set hN hi hx he hs hf) fun D σ H ⟨ρ, F, er, z⟩ => tE_bindS er z fun v ρ1 w F1 H1 st rep h1 => h1 _ F1 H1
    ⟨(Stp.refl F1 H1 _).less fun p q => own_set q, st.2.set rep, (fun j hj => List.getElem?_set_ne (fun q => by subst q; rw [hp] at hj; cases hj)), List.length_set⟩
theorem er_own {F H : Hp} {σ : St} {ρ : Env'} {i : Nat} {p : Addr} {vs : List V} {xs : List PV} (er : ER c F H σ ρ) (hF : F p = none) (hH : H p = some (.lst vs)) (no : ¬ Own σ ρ p) (r : Reps c F vs xs) :
    ER c F H (σ.set i (some (.ref p))) (ρ.set i (.ow xs)) ∧ ∀ q, Own (σ.set i (some (.ref p))) (ρ.set i (.ow xs)) q → Own σ ρ q ∨ q = p := by
  have len : ∀ {j : Nat} {s : SV} {y : SV}, (ρ.set i y)[i]? = some s → i < ρ.length := fun {j s y} h => by
    have := (List.getElem?_eq_some_iff.mp h).1
    rwa [List.length_set] at this
  have at_ : ∀ {j s q}, (σ.set i (some (.ref p)))[j]? = some (some (.ref q)) → (ρ.set i (.ow xs))[j]? = some s → s.own = true → (j = i ∧ q = p) ∨ (j ≠ i ∧ σ[j]? = some (some (.ref q)) ∧ ρ[j]? = some s) := fun {j s q} h1 h2 h3 => by
    by_cases hj : i = j
    · subst hj
      have hl := len (j := i) h2
      rw [List.getElem?_set_self (by rw [er.len]; exact hl)] at h1
      cases h1
      exact .inl ⟨rfl, rfl⟩
    · rw [List.getElem?_set_ne hj] at h1 h2
      exact .inr ⟨Ne.symm hj, h1, h2⟩
  refine ⟨⟨er.sub, by rw [List.length_set, List.length_set]; exact er.len, fun j o s h1 h2 => ?_, fun j k s t q h1 h2 h3 h4 h5 h6 => ?_, er.mrk⟩, fun q ⟨j, s, h1, h2, h3⟩ => ?_⟩
  · by_cases hj : i = j
    · subst hj
      have hl := len (j := i) h2
      rw [List.getElem?_set_self hl] at h2
      rw [List.getElem?_set_self (by rw [er.len]; exact hl)] at h1
      cases h1
      cases h2
      exact ⟨p, vs, rfl, hF, hH, r⟩
    · rw [List.getElem?_set_ne hj] at h1 h2
      exact er.slot j o s h1 h2
  · rcases at_ h1 h3 h5 with ⟨e1, e2⟩ | ⟨n1, a1, b1⟩
    · rcases at_ h2 h4 h6 with ⟨e3, e4⟩ | ⟨n2, a2, b2⟩
      · exact e1.trans e3.symm
      · subst e2
        exact absurd ⟨k, t, a2, b2, h6⟩ no
    · rcases at_ h2 h4 h6 with ⟨e3, e4⟩ | ⟨n2, a2, b2⟩
      · subst e4
        exact absurd ⟨j, s, a1, b1, h5⟩ no
      · exact er.dis j k s t q a1 a2 b1 b2 h5 h6
  · rcases at_ h1 h2 h3 with ⟨e1, e2⟩ | ⟨n1, a1, b1⟩
    · exact .inr e2
    · exact .inl ⟨j, s, a1, b1, h3⟩
/-- x = a new list that stays one's own -/
theorem vs_own {i : Nat} {x : Str} {pos' : Pos} (hN : X.N.Nodup) (hi : X.N[i]? = some x) (hx : Loc X.env.scope x) (hp : pn i = false) (he : PE X e (tL c W gl)) (hs : swapsWith e (some (.Name x pos')) pos.line X.env = pure false := by rfl)
    (hf : X.fn x = true ∨ X.env.scope.names.lookup x = some .local := by first | exact .inl rfl | exact .inr rfl | assumption) : PS X (.Assign [.Name x pos'] e pos) (tS c pn W (sOwn i gl)) :=
  imp_PS (ps_set hN hi hx he hs hf) fun D σ H ⟨ρ, F, er, z⟩ => ⟨ρ, F, er, (gl ρ).mono (fun r h1 p vs F1 H1 st hn hF hH no rep => by
    obtain ⟨er2, ow2⟩ := er_own (i := i) st.2 hF hH no rep
    refine h1 _ F1 H1 ⟨⟨st.1.ff, st.1.hh, st.1.th, fun q z => ?_⟩, er2, (fun j hj => List.getElem?_set_ne (fun q => by subst q; rw [hp] at hj; cases hj)), List.length_set⟩
    rcases ow2 q z with z | z
    · exact st.1.ow q z
    · subst z; exact .inr hn) (fun _ q => q.e) z⟩
theorem vs_expr (he : PE X e (tE c W ge)) (hs : swapsWith e none pos.line X.env = pure false := by rfl) : PS X (.Expr e pos) (tS c pn W (sDrop ge)) :=
  imp_PS (ps_expr he hs) fun D σ H ⟨ρ, F, er, z⟩ => tE_bindS er z fun v ρ1 w F1 H1 st rep h1 => h1 σ F1 H1 (StpS.refl st.2)
theorem vs_ret (he : PE X e (tE c W ge)) : PS X (.Return (some e) pos) (tS c pn W (sRet ge)) :=
  imp_PS (ps_ret he) fun D σ H ⟨ρ, F, er, z⟩ => tE_bindS er z fun v ρ1 w F1 H1 st rep h1 => h1 w σ F1 H1 (StpS.refl st.2) rep
theorem vs_retN : PS X (.Return none pos) (tS c pn W (sRet (eC .non))) := imp_PS ps_retN fun D σ H ⟨ρ, F, er, z⟩ => z .non σ F H (StpS.refl er) .non
theorem vs_if {p q : List Stmt} (ht : PT X a (tT c W gt)) (h1 : PSs X p (tS c pn W g)) (h2 : PSs X q (tS c pn W h)) : PS X (.If a p q pos) (tS c pn W (sIf gt g h)) :=
  imp_PS (ps_if ht h1 h2) fun D σ H ⟨ρ, F, er, z⟩ => tT_bindS er z fun b ρ1 F1 H1 st q => by
    cases b with
    | true => exact ⟨ρ1, F1, st.2, q⟩
    | false => exact ⟨ρ1, F1, st.2, q⟩
theorem vs_pass : PS X (.Pass pos) (tS c pn W sNil) := imp_PS ps_pass fun D σ H ⟨ρ, F, er, z⟩ => z σ F H (StpS.refl er)
theorem vs_break : PS X (.Break pos) (tS c pn W sBrk) := imp_PS ps_break fun D σ H ⟨ρ, F, er, z⟩ => z σ F H (StpS.refl er)
theorem vs_continue : PS X (.Continue pos) (tS c pn W sCnt) := imp_PS ps_continue fun D σ H ⟨ρ, F, er, z⟩ => z σ F H (StpS.refl er)
/-- a list of one's own is frozen from here on -/
theorem pub_er {F H : Hp} {σ : St} {ρ : Env'} {i : Nat} {xs : List PV} (er : ER c F H σ ρ) (hi : ρ[i]? = some (.ow xs)) : ∃ F', StpS c pn σ ρ F H σ (ρ.set i (.fz (.lst none xs))) F' H := by
  obtain ⟨p, vs, h1, h2, h3, r⟩ := er.ow hi
  have hil : i < ρ.length := (List.getElem?_eq_some_iff.mp hi).1
  have f := freeze_grow er.sub h2 h3
  have own' : ∀ q, Own σ (ρ.set i (.fz (.lst none xs))) q → Own σ ρ q ∧ q ≠ p := fun q ⟨j, s, a, b, d⟩ => by
    by_cases hj : i = j
    · subst hj
      rw [List.getElem?_set_self hil] at b
      cases b
      cases d
    · rw [List.getElem?_set_ne hj] at b
      refine ⟨⟨j, s, a, b, d⟩, fun e => ?_⟩
      subst e
      exact hj (er.dis i j (.ow xs) s q h1 a hi b rfl d)
  refine ⟨upd F p (.lst vs), ⟨f.1, fun q o e n => ⟨e, fun z => ?_⟩, fun q o e => ⟨o, e⟩, fun q z => .inl (own' q z).1⟩, ⟨f.2, by rw [List.length_set]; exact er.len, fun j o s a b => ?_, fun j k s t q a b a' b' d d' => ?_, er.mrk⟩, fun _ _ => rfl, rfl⟩
  · by_cases hq : q = p
    · subst hq
      exact absurd ⟨i, _, h1, hi, rfl⟩ n
    · rw [upd_ne hq]; exact z
  · by_cases hj : i = j
    · subst hj
      rw [List.getElem?_set_self hil] at b
      rw [h1] at a
      cases a
      cases b
      exact ⟨.ref p, rfl, .lst upd_same (r.mono f.1) fun _ z => nomatch z⟩
    · rw [List.getElem?_set_ne hj] at b
      refine freeze_slot h2 (fun q e1 e2 e3 => ?_) (er.slot j o s a b)
      subst e3
      subst e1
      exact hj (er.dis i j (.ow xs) s q h1 a hi b rfl e2)
  · have ne : ∀ {j s}, (ρ.set i (.fz (.lst none xs)))[j]? = some s → s.own = true → i ≠ j := fun {j s} b d hj => by
      subst hj
      rw [List.getElem?_set_self hil] at b
      cases b
      cases d
    have n1 := ne a' d
    have n2 := ne b' d'
    rw [List.getElem?_set_ne n1] at a'
    rw [List.getElem?_set_ne n2] at b'
    exact er.dis j k s t q a b a' b' d d'
theorem vss_pub {i : Nat} (h1 : PSs X rest (tS c pn W g)) : PSs X rest (tS c pn W (sPub i g)) := imp_PSs h1 fun D σ H ⟨ρ, F, er, z⟩ => by
  unfold sPub at z
  split at z
  · rename_i xs hi
    obtain ⟨F', s⟩ := pub_er (pn := pn) er hi
    exact ⟨_, F', s.2.1, run_stepS s z⟩
  · exact z.elim
theorem len_wipe {σ σ' : St} {is : List Nat} (h : wipe σ' is = wipe σ is) : σ'.length = σ.length := by
  have e := congrArg List.length h
  rwa [wipe_length, wipe_length] at e
/-- a target of any form -/
theorem vs_tgt {tg : Expr} {is : List Nat} {tgr : TG} {f : GG} (he : PE X e (tE c W ge)) (hg : PG X tg tgr) (hgf : TgOk c is tgr f) (hp : ∀ i, i ∈ is → pn i = false) (hs : swapsWithSole [tg] e pos.line X.env = pure false := by rfl) (hw : swappedStores [tg] e X.env = pure none := by rfl)
    (h1 : (assignEach [tg] X.env).map (·.2) = [assign tg X.env] := by rfl) : PS X (.Assign [tg] e pos) (tS c pn W (sTgt f ge)) :=
  imp_PS (ps_asg he hg hs hw h1) fun D σ H ⟨ρ, F, er, z⟩ => tE_bindS er z fun v ρ1 w F1 H1 st rep h1 => by
    dsimp only at h1
    cases hf : f v ρ1 with
    | none => rw [hf] at h1; exact h1.elim
    | some ρ' =>
      rw [hf] at h1
      exact hgf F1 H1 σ ρ1 ρ' w v _ st.2 rep hf fun σ' er' ow wp nj => h1 σ' F1 H1 ⟨(Stp.refl F1 H1 _).less ow, er', (fun j hj => nj j (fun z => by rw [hp j z] at hj; cases hj)), len_wipe wp⟩
/-- a, b = x, y -/
def sPar (i j : Nat) (g h : GE) : GS := fun ρ => (g ρ).bind fun a => (h a.2).bind fun b => .ret (.nx ((b.2.set i (.fz a.1)).set j (.fz b.1)))
theorem vs_par {i j : Nat} {x y : Str} {ga gb : GE} {px py pt : Pos} {kt k2 pt2} (hc : X.calm = true) (hN : X.N.Nodup) (hi : X.N[i]? = some x) (hj : X.N[j]? = some y) (hij : i ≠ j) (hpi : pn i = false) (hpj : pn j = false)
    (hx : X.env.scope.names.lookup x = some .local) (hy : X.env.scope.names.lookup y = some .local) (ha : PE X a (tE c W ga)) (hb : PE X b (tE c W gb))
    (hw : swappedStores [.Tuple [.Name x px, .Name y py] kt pt] (.Tuple [a, b] k2 pt2) X.env = pure (some [x, y]))
    (he : starEach [a, b] X.env = (false, eval a X.env) :: starEach [b] X.env := by rfl) (he2 : starEach [b] X.env = (false, eval b X.env) :: starEach [] X.env := by rfl)
    (hs : swapsWithSole [.Tuple [.Name x px, .Name y py] kt pt] (.Tuple [a, b] k2 pt2) pos.line X.env = pure false := by rfl) :
    PS X (.Assign [.Tuple [.Name x px, .Name y py] kt pt] (.Tuple [a, b] k2 pt2) pos) (tS c pn W (sPar i j ga gb)) :=
  imp_PS (ps_par hc hN hi hj hij hx hy (pa_cons ha (pa_cons hb pa_nil he2) he) hw hs) fun D σ H ⟨ρ, F, er, z⟩ =>
    tE_bindS er z fun v ρ1 w F1 H1 st rep h1 => tE_bindS st.2 h1 fun u ρ2 y F2 H2 st2 rep2 h2 => ⟨w, y, rfl, h2 _ F2 H2
      ⟨(Stp.refl F2 H2 _).less fun p q => own_set (own_set q), (st2.2.set (rep.mono st2.1.ff)).set rep2, (fun k hk => by
        have n1 : j ≠ k := fun q => by rw [← q, hpj] at hk; cases hk
        have n2 : i ≠ k := fun q => by rw [← q, hpi] at hk; cases hk
        rw [List.getElem?_set_ne n1, List.getElem?_set_ne n2]), by rw [List.length_set, List.length_set]⟩⟩
end
end VL

set_option Elab.async false
set_option linter.all false
set_option maxRecDepth 100000
set_option maxHeartbeats 1000000
/-! VL, part 8: loops, defs, exceptions. -/
namespace VL
open PySem PySem.Spec PyProof.Rows L2

/-! ### for -/
def forLoop (f : GG) (g : GS) : List PV → Env' → Wp XE' Out
  | [], ρ => .ret (.nx ρ)
  | x :: xs, ρ => match f x ρ with
    | none => .stuck
    | some ρ1 => (g ρ1).bind fun o => match o with
      | .nx ρ2 => forLoop f g xs ρ2
      | .ct ρ2 => forLoop f g xs ρ2
      | .bk ρ2 => .ret (.nx ρ2)
      | .rt v ρ2 => .ret (.rt v ρ2)
      | .th (some b) ρ2 => .ret (.th (some b) ρ2)
      | .th none _ => .stuck
def sFor (f : GG) (gi : GI) (g : GS) : GS := fun ρ => (gi ρ).bind fun a => forLoop f g a.1 a.2
section
variable {c : Cn} {X : Cx} {W : WX} {pn : Nat → Bool} {g : GS} {pos : Pos}
theorem vs_for {tg iter : Expr} {body : List Stmt} {is : List Nat} {tgr : TG} {f : GG} {gi : GI} (hp : PassesOwn (model X.prog X.w) X.A X.env X.xe) (hc : X.calm = true) (hi : PI X tg iter (tI c W gi)) (hg : PG X tg tgr) (hgf : TgOk c is tgr f) (hpn : ∀ i, i ∈ is → pn i = false)
    (hb : PSs X body (tS c pn W g)) (hs : ∀ x, foldedSetIterable iter X.env x = pure x := by intro _; rfl) : PS X (.For tg iter body [] pos) (tS c pn W (sFor f gi g)) :=
  imp_PS (ps_for hp hc hi hg hb hs) fun D σ H ⟨ρ, F, er, z⟩ => tI_bindS er z fun xs ρ1 J F1 H1 st wk h1 => by
    refine ⟨fun i m σ' H' => m = xs.length - i ∧ i ≤ xs.length ∧ ∃ ρ' F', StpS c pn σ ρ1 F1 H1 σ' ρ' F' H' ∧ (forLoop f g (xs.drop i) ρ').run (OkS c pn σ' ρ' F' H' D) (ErS c pn W σ' ρ' F' H'),
      ⟨_, rfl, Nat.zero_le _, ρ1, F1, StpS.refl st.2, h1⟩, fun i m σ' H' hW => ?_⟩
    obtain ⟨rfl, hle, ρ', F', s, run⟩ := hW
    have same : Same F1 H' := s.1.ff.trans s.2.1.sub
    by_cases hi : i < xs.length
    · rw [List.drop_eq_getElem_cons hi] at run
      unfold forLoop at run
      obtain ⟨go, yl⟩ := wk.go i xs[i] H' (List.getElem?_eq_getElem hi) same
      refine .inr ⟨go, fun σ3 H3 => ∃ ρ3 F3, StpS c pn σ ρ1 F1 H1 σ3 ρ3 F3 H3 ∧ (forLoop f g (xs.drop (i + 1)) ρ3).run (OkS c pn σ3 ρ3 F3 H3 D) (ErS c pn W σ3 ρ3 F3 H3), fun σ3 H3 ⟨ρ3, F3, s3, r3⟩ => ⟨xs.length - (i + 1), by omega, rfl, hi, ρ3, F3, s3, r3⟩, fun x Hy y => ?_⟩
      obtain ⟨Fy, gr, rx⟩ := yl x Hy F' s.1.ff s.2.1.sub y
      have ery := s.2.1.grow gr
      cases hf : f xs[i] ρ' with
      | none => rw [hf] at run; exact run.elim
      | some ρ2 =>
        rw [hf] at run
        dsimp only at run
        refine hgf Fy Hy σ' ρ' ρ2 x xs[i] _ ery rx hf fun σ2 er2 ow2 wp nj => ?_
        have s2 : StpS c pn σ' ρ' F' H' σ2 ρ2 Fy Hy := ⟨(gr.stp _).less fun p q => ow2 p q, er2, (fun j hj => nj j (fun q => by rw [hpn j q] at hj; cases hj)), len_wipe wp⟩
        refine ⟨ρ2, Fy, er2, (g ρ2).mono (fun o q => ?_) (fun _ q => ErS.step s2 q) run⟩
        cases o with
        | nx ρ3 => exact fun σ3 F3 H3 s3 => ⟨ρ3, F3, s.trans (s2.trans s3), run_stepS (s2.trans s3) q⟩
        | ct ρ3 => exact fun σ3 F3 H3 s3 => ⟨ρ3, F3, s.trans (s2.trans s3), run_stepS (s2.trans s3) q⟩
        | bk ρ3 => exact fun σ3 F3 H3 s3 => q σ3 F3 H3 (s2.trans s3)
        | rt v ρ3 => exact fun w σ3 F3 H3 s3 rp => q w σ3 F3 H3 (s2.trans s3) rp
        | th o ρ3 => cases o with
          | none => exact q.elim
          | some b => exact fun σ3 H3 t => ⟨(fun z => nomatch z), (q σ3 H3 (t.step s2)).2⟩
    · have e : i = xs.length := by omega
      subst e
      rw [List.drop_length] at run
      exact .inl ⟨wk.stop H' same, run σ' _ H' (StpS.refl s.2.1)⟩

/-! ### while -/
def whLoop (t : GT) (g : GS) : Nat → Env' → Wp XE' Out
  | 0, _ => .stuck
  | n + 1, ρ => (t ρ).bind fun b => if b.1 = true then (g b.2).bind fun o => match o with
      | .nx ρ2 => whLoop t g n ρ2
      | .ct ρ2 => whLoop t g n ρ2
      | .bk ρ2 => .ret (.nx ρ2)
      | .rt v ρ2 => .ret (.rt v ρ2)
      | .th (some b) ρ2 => .ret (.th (some b) ρ2)
      | .th none _ => .stuck
    else .ret (.nx b.2)
/-- some number of turns is enough -/
def sWhile (t : GT) (g : GS) : GS := fun ρ => ⟨fun K E => ∃ n, (whLoop t g n ρ).run K E, fun h e ⟨n, x⟩ => ⟨n, (whLoop t g n ρ).mono h e x⟩⟩
theorem vs_while {a : Expr} {body : List Stmt} {gt : GT} (hp : PassesOwn (model X.prog X.w) X.A X.env X.xe) (ht : PT X a (tT c W gt)) (hb : PSs X body (tS c pn W g)) : PS X (.While a body [] pos) (tS c pn W (sWhile gt g)) :=
  imp_PS (ps_while hp ht hb) fun D σ H ⟨ρ, F, er, n0, z⟩ => by
    refine ⟨fun n σ' H' => ∃ ρ' F', StpS c pn σ ρ F H σ' ρ' F' H' ∧ (whLoop gt g n ρ').run (OkS c pn σ' ρ' F' H' D) (ErS c pn W σ' ρ' F' H'), ⟨n0, ρ, F, StpS.refl er, z⟩, fun n σ1 H1 hW => ?_⟩
    obtain ⟨ρ1, F1, s1, run⟩ := hW
    cases n with
    | zero => exact run.elim
    | succ n =>
      unfold whLoop at run
      refine tT_bindS s1.2.1 run fun b ρ2 F2 H2 st2 run2 => ?_
      have s2 := s1.trans st2.s
      cases b with
      | true =>
        refine ⟨fun σ3 H3 => ∃ ρ3 F3, StpS c pn σ ρ F H σ3 ρ3 F3 H3 ∧ (whLoop gt g n ρ3).run (OkS c pn σ3 ρ3 F3 H3 D) (ErS c pn W σ3 ρ3 F3 H3), fun σ3 H3 q => ⟨n, Nat.lt_succ_self n, q⟩, ρ2, F2, st2.2, (g ρ2).mono (fun o q => ?_) (fun _ q => q) run2⟩
        cases o with
        | nx ρ3 => exact fun σ3 F3 H3 s3 => ⟨ρ3, F3, s2.trans s3, run_stepS s3 q⟩
        | ct ρ3 => exact fun σ3 F3 H3 s3 => ⟨ρ3, F3, s2.trans s3, run_stepS s3 q⟩
        | bk ρ3 => exact fun σ3 F3 H3 s3 => q σ3 F3 H3 s3
        | rt v ρ3 => exact fun w σ3 F3 H3 s3 rp => q w σ3 F3 H3 s3 rp
        | th o ρ3 => cases o with
          | none => exact q.elim
          | some b => exact fun σ3 H3 t => ⟨(fun z => nomatch z), (q σ3 H3 t).2⟩
      | false => exact run2 σ1 F2 H2 (StpS.refl st2.2)
end

/-! ### defs -/
def outs : List SV → Env' → List SV
  | [], _ => []
  | s :: ss, ρ => (if s.own = true then ρ.headD .un else .un) :: outs ss ρ.tail
def pinned (pn : Nat → Bool) (ss : List SV) : Bool := (List.range ss.length).all fun i => match ss[i]? with
  | some s => !s.own || pn i
  | none => true
/-- a def with n slots -/
def fnV (n : Nat) (pn : Nat → Bool) (g : GS) : GF := fun ss => if pinned pn ss = true then ((g (ss ++ List.replicate (n - ss.length) .un)).mapE fun e => (e.1, outs ss e.2)).bind fun o => match o with
  | .nx ρ => .ret (.non, outs ss ρ)
  | .rt v ρ => .ret (v, outs ss ρ)
  | _ => .stuck
  else .stuck
section
variable {c : Cn} {pn : Nat → Bool} {F H F' H' : Hp}
theorem outs_length : ∀ (ss : List SV) (ρ : Env'), (outs ss ρ).length = ss.length
  | [], _ => rfl
  | s :: ss, ρ => congrArg Nat.succ (outs_length ss ρ.tail)
theorem outs_get : ∀ {ss : List SV} {ρ : Env'} {i : Nat} {t : SV}, (outs ss ρ)[i]? = some t → (∃ s, ss[i]? = some s ∧ s.own = true ∧ ρ[i]? = some t) ∨ t = .un
  | [], _, _, _, h => by simp [outs] at h
  | s :: ss, ρ, 0, t, h => by
    have h' : (if s.own = true then ρ.headD .un else .un) = t := by simpa [outs] using h
    by_cases ho : s.own = true
    · rw [if_pos ho] at h'
      cases ρ with
      | nil => exact .inr h'.symm
      | cons a as => exact .inl ⟨s, rfl, ho, by rw [← h']; rfl⟩
    · rw [if_neg ho] at h'
      exact .inr h'.symm
  | s :: ss, ρ, i + 1, t, h => by
    have h' : (outs ss ρ.tail)[i]? = some t := by simpa [outs] using h
    rcases outs_get h' with ⟨u, a, b, d⟩ | e
    · refine .inl ⟨u, by simpa using a, b, ?_⟩
      cases ρ with
      | nil => simp at d
      | cons x xs => simpa using d
    · exact .inr e
theorem er_enter {N : List Str} {vs : List V} {ss : List SV} (er : ER c F H (vs.map some) ss) (hl : vs.length ≤ N.length) : ER c F H (L2.start N vs) (ss ++ List.replicate (N.length - ss.length) .un) ∧ ∀ p, Own (L2.start N vs) (ss ++ List.replicate (N.length - ss.length) .un) p ↔ Own (vs.map some) ss p := by
  have len : vs.length = ss.length := by have := er.len; rwa [List.length_map] at this
  have lo : ∀ {i : Nat}, i < ss.length → (L2.start N vs)[i]? = (vs.map some)[i]? ∧ (ss ++ List.replicate (N.length - ss.length) SV.un)[i]? = ss[i]? := fun {i} h => by
    refine ⟨?_, List.getElem?_append_left h⟩
    unfold L2.start
    exact List.getElem?_append_left (by rw [List.length_map, len]; exact h)
  have hi : ∀ {i : Nat} {s : SV}, ¬ i < ss.length → (ss ++ List.replicate (N.length - ss.length) SV.un)[i]? = some s → s = .un := fun {i s} h e => by
    rw [List.getElem?_append_right (by omega), List.getElem?_replicate] at e
    split at e
    · cases e; rfl
    · cases e
  have own : ∀ {i : Nat} {s : SV}, (ss ++ List.replicate (N.length - ss.length) SV.un)[i]? = some s → s.own = true → i < ss.length := fun {i s} e h => by
    by_cases q : i < ss.length
    · exact q
    · rw [hi q e] at h
      cases h
  refine ⟨⟨er.sub, ?_, fun i o s h1 h2 => ?_, fun i j s t p h1 h2 h3 h4 h5 h6 => ?_, er.mrk⟩, fun p => ⟨fun ⟨i, s, h1, h2, h3⟩ => ?_, fun ⟨i, s, h1, h2, h3⟩ => ?_⟩⟩
  · unfold L2.start
    rw [List.length_append, List.length_append, List.length_map, List.length_replicate, List.length_replicate, len]
  · by_cases q : i < ss.length
    · rw [(lo q).1] at h1
      rw [(lo q).2] at h2
      exact er.slot i o s h1 h2
    · rw [hi q h2]
      trivial
  · have q1 := own h3 h5
    have q2 := own h4 h6
    rw [(lo q1).1] at h1
    rw [(lo q2).1] at h2
    rw [(lo q1).2] at h3
    rw [(lo q2).2] at h4
    exact er.dis i j s t p h1 h2 h3 h4 h5 h6
  · have q := own h2 h3
    rw [(lo q).1] at h1
    rw [(lo q).2] at h2
    exact ⟨i, s, h1, h2, h3⟩
  · have q : i < ss.length := (List.getElem?_eq_some_iff.mp h2).1
    exact ⟨i, s, by rw [(lo q).1]; exact h1, by rw [(lo q).2]; exact h2, h3⟩
theorem er_leave {N : List Str} {vs : List V} {ss : List SV} {σ' : St} {ρ' : Env'} (er : ER c F H (vs.map some) ss) (hl : vs.length ≤ N.length) (hp : pinned pn ss = true)
    (s : StpS c pn (L2.start N vs) (ss ++ List.replicate (N.length - ss.length) .un) F H σ' ρ' F' H') : StpE c (vs.map some) ss F H (outs ss ρ') F' H' := by
  obtain ⟨er0, ow0⟩ := er_enter er hl
  have len : vs.length = ss.length := by have := er.len; rwa [List.length_map] at this
  have pin : ∀ {i : Nat} {s : SV}, ss[i]? = some s → s.own = true → pn i = true := fun {i s} h1 h2 => by
    unfold pinned at hp
    have q := List.all_eq_true.mp hp i (List.mem_range.mpr (List.getElem?_eq_some_iff.mp h1).1)
    rw [h1] at q
    simpa [h2] using q
  have at_ : ∀ {i : Nat} {u : SV}, ss[i]? = some u → u.own = true → σ'[i]? = (vs.map some)[i]? := fun {i u} h1 h2 => by
    rw [s.2.2.1 i (pin h1 h2)]
    unfold L2.start
    exact List.getElem?_append_left (by rw [List.length_map, len]; exact (List.getElem?_eq_some_iff.mp h1).1)
  have own' : ∀ p, Own (vs.map some) (outs ss ρ') p → Own σ' ρ' p := fun p ⟨i, t, h1, h2, h3⟩ => by
    rcases outs_get h2 with ⟨u, a, b, d⟩ | e
    · exact ⟨i, t, by rw [at_ a b]; exact h1, d, h3⟩
    · subst e; cases h3
  refine ⟨⟨s.1.ff, fun p o h n => s.1.hh p o h fun q => n ((ow0 p).mp q), s.1.th, fun p h => ?_⟩, s.2.1.sub, ?_, fun i o t h1 h2 => ?_, fun i j t u p h1 h2 h3 h4 h5 h6 => ?_, s.2.1.mrk⟩
  · rcases s.1.ow p (own' p h) with q | q
    · exact .inl ((ow0 p).mp q)
    · exact .inr q
  · rw [List.length_map]
    rw [outs_length, len]
  · rcases outs_get h2 with ⟨v, a, b, d⟩ | e
    · exact s.2.1.slot i o t (by rw [at_ a b]; exact h1) d
    · subst e; trivial
  · rcases outs_get h3 with ⟨v, a, b, d⟩ | e
    · rcases outs_get h4 with ⟨v', a', b', d'⟩ | e
      · exact s.2.1.dis i j t u p (by rw [at_ a b]; exact h1) (by rw [at_ a' b']; exact h2) d d' h5 h6
      · subst e; cases h6
    · subst e; cases h5
/-- a def of the text keeps what its body makes -/
theorem fn_ok {P : Program} {w : World} {K : PySem.W.Frag} {mg : Str → Option Value} {base : Heap} {x qual : Str} {st : Stmt} {f : Addr} {fd : FuncData} {N ps : List Str} {k n : Nat} {g : GS} (hk : c.K = K) (Fn : Fun K x qual st f fd) (S : FnScope N ps (defScope st)) (hn : ps.length = n) (hl : ps.length ≤ N.length)
    (hbody : ∀ (cdv : Value) (A : Around) (outer : List Env) (s : Shared) (H : Hp) (E : XK), Room k (A.deeper (envOfC qual (defScope st) s.heap.objs.size f cdv)) →
      PSs (cxOf (L2.CX P w) P w K mg base N qual (defScope st) f cdv A outer s H E) (defBody st) (tS c pn (fun cls d _ H' => E cls d H') g)) : FnOk P w K mg base (L2.CX P w) (k + 1) f fd ps (SpV c n (fnV N.length pn g)) := by
  refine Fn.okX S (fun vs H Q E h => h.1.trans hn.symm) (fun cdv A outer s H vs Q E hr h => ⟨_, hbody cdv A outer s H E hr, ?_⟩)
  obtain ⟨hv, F, ss, er, z⟩ := h
  have hvl : vs.length ≤ N.length := by omega
  unfold fnV at z
  by_cases hp : pinned pn ss = true
  · rw [if_pos hp] at z
    obtain ⟨er0, _⟩ := er_enter er hvl
    refine ⟨_, F, er0, (g _).mono (fun o q => ?_) (fun e q d σ' F' H' s' ex => q d F' H' (er_leave er hvl hp s') ex) z⟩
    cases o with
    | nx ρ' => exact fun σ' F' H' s' => q .non F' H' (er_leave er hvl hp s') .non
    | rt v ρ' => exact fun w σ' F' H' s' rp => q w F' H' (er_leave er hvl hp s') rp
    | bk ρ' => exact q.elim
    | ct ρ' => exact q.elim
    | th o ρ' => exact q.elim
  · rw [if_neg hp] at z
    exact z.elim
end
end VL

set_option Elab.async false
set_option linter.all false
set_option maxRecDepth 100000
set_option maxHeartbeats 2000000
/-! VL, part 9: raise, try. -/
namespace VL
open PySem PySem.Spec PyProof.Rows L2

/-! ### try with clauses of both kinds (with a name, without) -/
/-- a clause: the class, the slot of its name if it has one, its suite's reading -/
abbrev Cl := Value × Option Nat × (Addr → Value → Option Addr → TS)
def suiteEnds (D : Ends) : Option Nat → Ends
  | none => D
  | some i => { nx := fun σ' H' => D.nx (σ'.set i none) H', rt := D.rt, bk := fun σ' H' => D.bk (σ'.set i none) H', ct := fun σ' H' => D.ct (σ'.set i none) H' }
def suiteSt (σ : St) (a : Addr) : Option Nat → St
  | none => σ
  | some i => σ.set i (some (.ref a))
def wMix (K : PySem.W.Frag) (Wo : WX) (D : Ends) : List Cl → WX
  | [] => Wo
  | k :: r => fun cls d σ H => ∃ b, PySem.W.exmOne K cls k.1 = some b ∧ (b = true → ∀ a, H a = none → k.2.2 a cls d (suiteEnds D k.2.1) (suiteSt σ a k.2.1) H) ∧ (b = false → wMix K Wo D r cls d σ H)
def SuiteOk (X : Cx) (suite : List Stmt) (ts : Addr → Value → Option Addr → TS) : Prop :=
  ∀ (a : Addr) (oe : Obj) (cls : Value) (d : Option Addr) (pl : List (Addr × Obj)), Zc cls d oe → (∃ vs, oe.data = .fields vs) → PSs (X.suite a ((a, oe) :: pl)) suite (ts a cls d)
inductive ClsOk (X : Cx) : List ExceptHandler → List Cl → Prop
  | nil : ClsOk X [] []
  | bare {x : Str} {cv : Value} {ts : Addr → Value → Option Addr → TS} {b₀ : Stmt} {suite : List Stmt} {np hp : Pos} {hds : List ExceptHandler} {l : List Cl} (hc : Names X x cv) (hsu : SuiteOk X (b₀ :: suite) ts) (r : ClsOk X hds l) :
      ClsOk X (.ExceptHandler (some (.Name x np)) none (b₀ :: suite) hp :: hds) ((cv, none, ts) :: l)
  | named {x n : Str} {i : Nat} {cv : Value} {ts : Addr → Value → Option Addr → TS} {b₀ : Stmt} {suite : List Stmt} {np hp : Pos} {hds : List ExceptHandler} {l : List Cl} (hc : Names X x cv) (hi : X.N[i]? = some n) (hln : X.env.kindOf n = some .local) (hsu : SuiteOk X (b₀ :: suite) ts) (r : ClsOk X hds l) :
      ClsOk X (.ExceptHandler (some (.Name x np)) (some n) (b₀ :: suite) hp :: hds) ((cv, some i, ts) :: l)
section
variable {X : Cx} {body : List Stmt} {h₀ : ExceptHandler} {hds : List ExceptHandler} {l : List Cl} {pos : Pos} {tb : WX → TS} {Wo : WX}
theorem ps_try_mix (hs : X.stack = X.env :: X.outer) (hf : X.env.frame = some X.env.locals) (hN : X.N.Nodup) (tk : Takes X Wo)
    (hb : ∀ (W : WX) (pl : List (Addr × Obj)) (xe : Value → Shared → Prop), Takes (X.tr pl xe) W → PassesOwn (model X.prog X.w) X.A X.env xe → PSs (X.tr pl xe) body (tb W))
    (hh : ClsOk X (h₀ :: hds) l) : PS X (.Try body (h₀ :: hds) [] [] pos) (fun D σ H => tb (wMix X.K Wo D l) D σ H) := by
  refine ⟨fun pins s σ H D I h => ?_⟩
  have ok := I.ok
  have fr : X.A.frames = some (X.env :: X.outer) := ok.frames.trans (congrArg some hs)
  refine wpAny_Try_except ?_
  refine wpAny_mono ((hb (wMix X.K Wo D l) (X.pn ++ pins) (fun x s1 => wpAny (model X.prog X.w) X.A (noteFrame x X.env) (fun _ s2 => wpAny (model X.prog X.w) X.A (setFlight x none)
    (fun _ s3 => wpAny (model X.prog X.w) X.A (handleBy x X.env (h₀ :: hds)) (SP X pins D) X.xe s3) X.xe s2) X.xe s1) (fun u s' xx => ?_) PassesOwn.looking).run [] s σ H D (I.toTry _) h) (fun fl s1 q => ?_) fun _ _ z => z
  · -- an exception has left the body
    obtain ⟨a, B, sI, pl, τ, G, cls, d, rfl, J', nb, up, sky, na, os, ag, w⟩ := xx
    have J : Inv X pins τ G sI := J'.ofTry ok
    rw [show (X.tr (X.pn ++ pins) _).stack = X.env :: X.outer from hs] at sky
    show wpAny (model X.prog X.w) X.A (noteFrame (.ref a) X.env) _ _ _
    refine Sky.land Zc.steady fr hf sky fun h3 fl3 up3 => ?_
    have J3 : Inv X pins τ G { s' with heap := h3 } := J.landed nb fl3.1 (up.trans up3) os ag
    obtain ⟨oe3, vs3, he3, hz3, hd3⟩ := fl3.there
    have nfr : a ∉ frs (X.env :: X.outer) := fun hm => by
      obtain ⟨_, o', e', hnf⟩ := fl3.2.2.1.mem hm
      rw [he3] at e'
      cases e'
      exact hnf _ hd3
    have nL : a ≠ X.env.locals := fun z => nfr (by rw [z]; exact List.mem_filterMap.mpr ⟨X.env, List.mem_cons_self, hf⟩)
    have nF : a ∉ X.fs := fun hm => by
      obtain ⟨v, hv, q⟩ := List.mem_filterMap.mp hm
      exact nfr (List.mem_filterMap.mpr ⟨v, List.mem_cons_of_mem _ hv, q⟩)
    have S3 := J3.suite he3 hd3 na nL nF
    have tests : ∀ {x : Str} {cv : Value} {np : Pos}, Names X x cv → ∀ {Q : Value → Shared → Prop} {E : Value → Shared → Prop}, Q cv { s' with heap := h3 } → wpAny (model X.prog X.w) (X.A.mark (some (.ref a))) (eval (.Name x np) X.env) Q E { s' with heap := h3 } := fun {x cv np} hc {Q E} q => by
      obtain ⟨hg, hdbg, hm | ⟨hm, hv, hnn⟩⟩ := hc
      · exact ld_glob (X := X.suite a ((a, oe3) :: (X.pn ++ pins))) S3 hg hm q hdbg
      · exact ld_blt (X := X.suite a ((a, oe3) :: (X.pn ++ pins))) S3 hg hm hv q hnn hdbg
    have LT : PySem.W.Looks (model X.prog X.w) h3 (typeOf (.ref a)) cls := fun A Q E s k q => wpAny_typeOf_ref (k _ _ he3) (by rw [hz3.1]; exact q)
    have go : ∀ {hds' : List ExceptHandler} {l' : List Cl}, ClsOk X hds' l' → wMix X.K Wo D l' cls d τ G → wpAny (model X.prog X.w) X.A (handleBy (.ref a) X.env hds') (SP X pins D) X.xe { s' with heap := h3 } := by
      intro hds' l' hk
      induction hk with
      | nil =>
        intro w
        refine wpAny_handleBy_nil ?_
        obtain ⟨k1, k2, k3, oe, vs, T, oT, ts', he, hz, hd, h1, hr⟩ := id fl3
        unfold PySem.passOn
        refine wpAny_bind (wpAny_field he hd h1 ?_)
        rw [if_neg (show ¬ ((Value.ref T == Value.none) = true) from by simp)]
        have fin : wpAny (model X.prog X.w) X.A (setFlight (.ref a) X.env.frame) (fun _ s4 => wpAny (model X.prog X.w) X.A (throw (.ref a) : Sem Flow) (SP X pins D) X.xe s4) X.xe { s' with heap := h3 } := by
          rw [hf]
          refine HandSPX.setFlight_upZ fl3 fun h4 hh4 up4 => wpAny_throw (tk _ _ ?_)
          exact ⟨a, B, sI, pins, τ, G, cls, d, rfl, J, nb, (up.trans up3).trans up4, .inr (.inr (by rw [hs]; exact hh4)), na, os, ag, w⟩
        first
          | exact wpAny_bind (wpAny_pure (wpAny_bind fin))
          | exact wpAny_bind fin
      | @bare x cv ts b₀ suite np hp hds2 l2 hc hsu r ih =>
        rintro ⟨b, hb1, hyes, hno⟩
        refine wpAny_handleBy_cons (codeAny_handlers_test ?_) (by intro q; cases q)
        refine tests hc ((PySem.W.exm_one (M := model X.prog X.w) J3.kIn LT hb1).here ?_)
        cases b with
        | false => exact ih (hno rfl)
        | true =>
          refine codeAny_handlers_suite (HandSPX.lands_againZ fl3 fun h4 fl4 up4 => ?_)
          have J4 : Inv X pins τ G { s' with heap := h4 } := J.landed nb fl4.1 ((up.trans up3).trans up4) os ag
          obtain ⟨oe4, vs4, he4, hz4, hd4⟩ := fl4.there
          refine wpAny_mono ((hsu a oe4 cls d (X.pn ++ pins) hz4 ⟨_, hd4⟩).run [] _ _ G _ (J4.suite he4 hd4 na nL nF) (hyes rfl a na)) (fun fl s6 q6 => ?_) fun _ _ z => False.elim z
          cases fl with
          | next => obtain ⟨σ6, H6, S6, q6⟩ := q6; exact ⟨_, _, S6.unsuite ok, q6⟩
          | brk => obtain ⟨σ6, H6, S6, q6⟩ := q6; exact ⟨_, _, S6.unsuite ok, q6⟩
          | cont => obtain ⟨σ6, H6, S6, q6⟩ := q6; exact ⟨_, _, S6.unsuite ok, q6⟩
          | ret u => obtain ⟨v6, σ6, H6, S6, r6, q6⟩ := q6; exact ⟨_, _, _, S6.unsuite ok, r6, q6⟩
      | @named x n i cv ts b₀ suite np hp hds2 l2 hc hi hln hsu r ih =>
        rintro ⟨b, hb1, hyes, hno⟩
        refine wpAny_handleBy_cons (codeAny_handlers_test ?_) (by intro q; cases q)
        refine tests hc ((PySem.W.exm_one (M := model X.prog X.w) J3.kIn LT hb1).here ?_)
        cases b with
        | false => exact ih (hno rfl)
        | true =>
          refine codeAny_handlers_suite_as (HandSPX.lands_againZ fl3 fun h4 fl4 up4 => ?_)
          have J4 : Inv X pins τ G { s' with heap := h4 } := J.landed nb fl4.1 ((up.trans up3).trans up4) os ag
          obtain ⟨oe4, vs4, he4, hz4, hd4⟩ := fl4.there
          refine store_ok (X := X.suite a ((a, oe4) :: (X.pn ++ pins))) (v := .ref a) (J4.suite he4 hd4 na nL nF) hN hi (.inl hln) rfl (fun s5 S5 => ?_) (.inr hln)
          refine wpAny_mono ((hsu a oe4 cls d (X.pn ++ pins) hz4 ⟨_, hd4⟩).run [] s5 _ G _ S5 (hyes rfl a na)) (fun fl s6 q6 => ?_) fun _ _ z => False.elim z
          have end_ : ∀ {σ6 : St} {H6 : Hp} {Q : Shared → Prop}, Inv (X.suite a ((a, oe4) :: (X.pn ++ pins))) [] σ6 H6 s6 → (∀ s7, Inv X pins (σ6.set i none) H6 s7 → Q s7) →
              wpAny (model X.prog X.w) X.A (do bindName X.env n .none; unbindBehindTheSuite X.env n hp) (fun _ s7 => Q s7) X.xe s6 := fun S6 hq => gone_ok (S6.unsuite ok) hN hi hln hq
          cases fl with
          | next => obtain ⟨σ6, H6, S6, q6⟩ := q6; exact end_ S6 fun s7 J7 => ⟨_, _, J7, q6⟩
          | brk => obtain ⟨σ6, H6, S6, q6⟩ := q6; exact end_ S6 fun s7 J7 => ⟨_, _, J7, q6⟩
          | cont => obtain ⟨σ6, H6, S6, q6⟩ := q6; exact end_ S6 fun s7 J7 => ⟨_, _, J7, q6⟩
          | ret u => obtain ⟨v6, σ6, H6, S6, r6, q6⟩ := q6; exact end_ S6 fun s7 J7 => ⟨_, _, _, J7, r6, q6⟩
    exact go hh w
  · cases fl with
    | next => obtain ⟨σ', H', J', q⟩ := q; exact wpAny_execs_nil ⟨σ', H', J'.ofTry ok, q⟩
    | brk => obtain ⟨σ', H', J', q⟩ := q; exact ⟨σ', H', J'.ofTry ok, q⟩
    | cont => obtain ⟨σ', H', J', q⟩ := q; exact ⟨σ', H', J'.ofTry ok, q⟩
    | ret u => obtain ⟨v, σ', H', J', r, q⟩ := q; exact ⟨v, σ', H', J'.ofTry ok, r, q⟩
end

/-! ### suites that return: a constant, or a list of constants and of the error's fields -/
inductive SI where
  | c (v : PV) | f (n : Str)
/-- scalars as values -/
def scV : PV → Option V
  | .non => some .non
  | .bl b => some (.bl b)
  | .int i => some (.int i)
  | .str x => some (.str x)
  | _ => none
theorem scV_rep {c : Cn} {F : Hp} {v : PV} {w : V} (h : scV v = some w) : Rep c F w v := by
  cases v <;> cases h
  · exact .non
  · exact .bl _
  · exact .int _
  · exact .str _
def tCst (v : PV) : TE := match scV v with
  | some w => tC w
  | none => fun _ _ _ => False
def tItem (a : Addr) (cls : Value) (d : Option Addr) (C : Addr) (i : Nat) : SI → TE
  | .c v => tCst v
  | .f n => tXf a cls d C n (tVar i)
def tItems (a : Addr) (cls : Value) (d : Option Addr) (C : Addr) (i : Nat) : List SI → TA
  | [] => tNil
  | x :: xs => tCons (tItem a cls d C i x) (tItems a cls d C i xs)
/-- what a suite of a clause for the class k gives of the error x -/
def siVal (k : Nat) (x : Ex) : SI → Option PV
  | .c v => (scV v).map fun _ => v
  | .f n => if x.k = k then x.fs.lookup n else none
def siVals (k : Nat) (x : Ex) : List SI → Option (List PV)
  | [] => some []
  | s :: r => (siVal k x s).bind fun v => (siVals k x r).map fun vs => v :: vs
inductive HB where
  | one (v : PV) | many (l : List SI)
def hbVal (k : Nat) (x : Ex) : HB → Option PV
  | .one v => (scV v).map fun _ => v
  | .many l => (siVals k x l).bind fun vs => if vs.length ≤ sizeLine then some (.lst none vs) else none
def tHB (C : Addr) (i : Nat) (h : HB) (a : Addr) (cls : Value) (d : Option Addr) : TS := match h with
  | .one v => tRet (tItem a cls d C i (.c v))
  | .many l => tRet (tLst (tItems a cls d C i l))
/-- a clause: the class's number, its name's slot, its body -/
structure Hd where
  k : Nat
  i : Option Nat
  b : HB
def pick (ex : Nat → Nat → Option Bool) (x : Ex) : List Hd → Option (Option PV)
  | [] => some none
  | h :: r => (ex x.k h.k).bind fun b => if b = true then (hbVal h.k x h.b).map some else pick ex x r
def sTry (ex : Nat → Nat → Option Bool) (hs : List Hd) (g : GS) : GS := fun ρ => ⟨fun K E => (g ρ).run K fun e => match pick ex e.1 hs with
    | some (some v) => K (.rt v e.2)
    | some none => E e
    | none => False, fun {K K' E E'} h h' x => (g ρ).mono h (fun e z => by
      cases q : pick ex e.1 hs with
      | none => rw [q] at z; exact z
      | some o =>
        rw [q] at z
        cases o with
        | none => exact h' _ z
        | some v => exact h _ z) x⟩
section
variable {c : Cn} {X : Cx} {W : WX} {pn : Nat → Bool} {g : GS} {pos : Pos}
/-- an item of a suite's list, as it is written -/
inductive ItOk (Y : Cx) (a : Addr) (cls : Value) (d : Option Addr) (C : Addr) (i : Nat) : List Expr → List SI → Prop
  | nil : ItOk Y a cls d C i [] []
  | cons {e : Expr} {s : SI} {es : List Expr} {l : List SI} (h : PE Y e (tItem a cls d C i s)) (r : ItOk Y a cls d C i es l) (hs : starEach (e :: es) Y.env = (false, eval e Y.env) :: starEach es Y.env) : ItOk Y a cls d C i (e :: es) (s :: l)
theorem itOk_pa {Y : Cx} {a : Addr} {cls : Value} {d : Option Addr} {C : Addr} {i : Nat} {es : List Expr} {l : List SI} (h : ItOk Y a cls d C i es l) : PA Y es (tItems a cls d C i l) := by
  induction h with
  | nil => exact pa_nil
  | cons h r hs ih => exact pa_cons h ih hs
theorem suite_many {C : Addr} {i : Nat} {es : List Expr} {l : List SI} {p1 p2 : Pos} (h : ∀ (a : Addr) (oe : Obj) (cls : Value) (d : Option Addr) (pl : List (Addr × Obj)), Zc cls d oe → (∃ vs, oe.data = .fields vs) → ItOk (X.suite a ((a, oe) :: pl)) a cls d C i es l) :
    SuiteOk X [.Return (some (.List es p1)) p2] (tHB C i (.many l)) := fun a oe cls d pl hz hf => pss_one (ps_ret (pe_lst (itOk_pa (h a oe cls d pl hz hf))))
theorem suite_non {C : Addr} {i : Nat} {j : Nat} {p1 p2 : Pos} : SuiteOk X [.Return (some (.Constant .none j p1)) p2] (tHB C i (.one .non)) := fun a oe cls d pl hz hf => pss_one (ps_ret pe_non)
/-- the clauses of the text and their bodies -/
def clOf (c : Cn) (h : Hd) : Cl := (.ref (c.cA h.k), h.i, tHB (c.cA h.k) (h.i.getD 0) h.b)
theorem items_run {a : Addr} {cls : Value} {d : Option Addr} {i k : Nat} {x : Ex} {F H : Hp} {σ : St} (hc : cls = .ref (c.cA x.k)) (hd : ExD c F H d x.fs) :
    ∀ {l : List SI} {vs : List PV} {Q : List V → Hp → Prop}, (∀ n, SI.f n ∈ l → σ[i]? = some (some (.ref a))) → siVals k x l = some vs → (∀ ws, Reps c F ws vs → Q ws H) → tItems a cls d (c.cA k) i l σ H Q := by
  intro l
  induction l with
  | nil => intro vs Q _ e q; cases e; exact q [] .nil
  | cons s l ih =>
    intro vs Q hf e q
    obtain ⟨v, e1, e2⟩ := Option.bind_eq_some_iff.mp (show (siVal k x s).bind _ = some vs from e)
    obtain ⟨us, e3, rfl⟩ := Option.map_eq_some_iff.mp e2
    have rest : ∀ w, Rep c F w v → tItems a cls d (c.cA k) i l σ H fun xs H2 => Q (w :: xs) H2 := fun w r => ih (fun n hn => hf n (List.mem_cons_of_mem _ hn)) e3 fun ws rs => q (w :: ws) (.cons r rs)
    cases s with
    | c u =>
      obtain ⟨w, h1, rfl⟩ := Option.map_eq_some_iff.mp (show (scV u).map (fun _ => u) = some v from e1)
      show tCst u σ H _
      unfold tCst
      rw [h1]
      exact rest w (scV_rep h1)
    | f n =>
      have e4 : (if x.k = k then x.fs.lookup n else none) = some v := e1
      by_cases hk : x.k = k
      · rw [if_pos hk] at e4
        rcases hd with ⟨d', ws, e5, hx, r⟩ | ⟨_, e5⟩
        · obtain ⟨w, h1, h2⟩ := r.lookup e4
          exact ⟨.ref a, hf n List.mem_cons_self, rfl, by rw [hc, hk], d', ws, w, e5, hx, h1, rest w h2⟩
        · rw [e5] at e4
          cases e4
      · rw [if_neg hk] at e4
        cases e4
/-- how errors and clauses go together -/
def ExmOk (c : Cn) (ex : Nat → Nat → Option Bool) : Prop := ∀ k j b, ex k j = some b → PySem.W.exmOne c.K (.ref (c.cA k)) (.ref (c.cA j)) = some b
theorem wMix_pick {ex : Nat → Nat → Option Bool} (hx : ExmOk c ex) {σ : St} {ρ' : Env'} {F H : Hp} {x : Ex} {D : Ends} {d : Option Addr} {Wo : WX} (er : ER c F H σ ρ') (hd : ExD c F H d x.fs) : ∀ {hs : List Hd}, (∀ h ∈ hs, ∀ l, h.b = .many l → (∃ n, SI.f n ∈ l) → ∃ i, h.i = some i ∧ i < σ.length) →
    (match pick ex x hs with
      | some (some v) => ∀ w F' H', Grow F H F' H' → Rep c F' w v → D.rt w H'
      | some none => Wo (.ref (c.cA x.k)) d σ H
      | none => False) → wMix c.K Wo D (hs.map (clOf c)) (.ref (c.cA x.k)) d σ H
  | [], _, q => q
  | h :: r, hn, q => by
    unfold pick at q
    cases e : ex x.k h.k with
    | none => rw [e] at q; exact q.elim
    | some b =>
      rw [e] at q
      simp only [Option.bind_some] at q
      refine ⟨b, hx _ _ _ e, fun eb a ha => ?_, fun eb => ?_⟩
      · subst eb
        rw [if_pos rfl] at q
        have rt : ∀ w H', (suiteEnds D h.i).rt w H' = D.rt w H' := fun w H' => by cases h.i <;> rfl
        cases hb : h.b with
        | one v =>
          rw [hb] at q
          show tHB (c.cA h.k) (h.i.getD 0) h.b a _ d _ _ _
          rw [hb]
          cases ev : scV v with
          | none =>
            have e2 : hbVal h.k x (.one v) = none := by show (scV v).map (fun _ => v) = none; rw [ev]; rfl
            rw [e2] at q
            exact q.elim
          | some w =>
            have e2 : hbVal h.k x (.one v) = some v := by show (scV v).map (fun _ => v) = some v; rw [ev]; rfl
            rw [e2] at q
            show tCst v _ _ _
            unfold tCst
            rw [ev]
            show (suiteEnds D h.i).rt w H
            rw [rt]
            exact q w F H (Grow.refl er.sub) (scV_rep ev)
        | many l =>
          rw [hb] at q
          show tHB (c.cA h.k) (h.i.getD 0) h.b a _ d _ _ _
          rw [hb]
          cases ev : siVals h.k x l with
          | none =>
            have e2 : hbVal h.k x (.many l) = none := by show (siVals h.k x l).bind _ = none; rw [ev]; rfl
            rw [e2] at q
            exact q.elim
          | some vs =>
            by_cases hz : vs.length ≤ sizeLine
            · have e2 : hbVal h.k x (.many l) = some (.lst none vs) := by show (siVals h.k x l).bind (fun vs => if vs.length ≤ sizeLine then some (PV.lst none vs) else none) = _; rw [ev]; exact if_pos hz
              rw [e2] at q
              show tLst (tItems a _ d (c.cA h.k) (h.i.getD 0) l) _ _ _
              refine items_run (x := x) rfl hd (fun n hf => ?_) ev fun ws rs => ⟨by rw [rs.length]; exact hz, fun p hp => ?_⟩
              · obtain ⟨i, hi, hl⟩ := hn h List.mem_cons_self l hb ⟨n, hf⟩
                have e5 : (suiteSt σ a h.i)[h.i.getD 0]? = some (some (.ref a)) := by
                  rw [hi]
                  exact List.getElem?_set_self hl
                exact e5
              · show (suiteEnds D h.i).rt _ _
                rw [rt]
                have gr := upd_grow (o := .lst ws) er.sub hp
                exact q _ _ _ gr (.lst upd_same (rs.mono gr.ff) fun _ z => nomatch z)
            · have e2 : hbVal h.k x (.many l) = none := by show (siVals h.k x l).bind (fun vs => if vs.length ≤ sizeLine then some (PV.lst none vs) else none) = _; rw [ev]; exact if_neg hz
              rw [e2] at q
              exact q.elim
      · subst eb
        rw [if_neg Bool.false_ne_true] at q
        exact wMix_pick hx er hd (fun h' hm => hn h' (List.mem_cons_of_mem _ hm)) q
theorem vs_try {ex : Nat → Nat → Option Bool} {body : List Stmt} {h₀ : ExceptHandler} {hds : List ExceptHandler} {hs : List Hd} (hk : c.K = X.K) (h1 : X.stack = X.env :: X.outer) (h2 : X.env.frame = some X.env.locals) (hN : X.N.Nodup) (tk : Takes X W) (hx : ExmOk c ex)
    (hb : ∀ (W : WX) (pl : List (Addr × Obj)) (xe : Value → Shared → Prop), Takes (X.tr pl xe) W → PassesOwn (model X.prog X.w) X.A X.env xe → PSs (X.tr pl xe) body (tS c pn W g))
    (hh : ClsOk X (h₀ :: hds) (hs.map (clOf c))) (hn : ∀ h ∈ hs, ∀ l, h.b = .many l → (∃ n, SI.f n ∈ l) → ∃ i, h.i = some i ∧ i < X.N.length) : PS X (.Try body (h₀ :: hds) [] [] pos) (tS c pn W (sTry ex hs g)) := by
  refine ⟨fun pins s σ H D I ⟨ρ, F, er, z⟩ => ?_⟩
  refine (ps_try_mix h1 h2 hN tk hb hh).run pins s σ H D I ⟨ρ, F, er, (g ρ).mono (fun _ q => q) (fun e q d σ' F' H' s' hd => ?_) z⟩
  have hl : σ'.length = X.N.length := s'.2.2.2.trans I.len
  rw [← hk]
  refine wMix_pick hx s'.2.1 hd (fun h hm l e1 e2 => by rw [hl]; exact hn h hm l e1 e2) ?_
  cases hp : pick ex e.1 hs with
  | none => rw [hp] at q; exact q.elim
  | some o =>
    rw [hp] at q
    cases o with
    | none => exact q d σ' F' H' s' hd
    | some v => exact fun w F2 H2 gr r => q w σ' F2 H2 (s'.trans ⟨gr.stp _, s'.2.1.grow gr, fun _ _ => rfl, rfl⟩) r
end
end VL

set_option Elab.async false
set_option linter.all false
set_option maxRecDepth 100000
set_option maxHeartbeats 1000000
/-! VL, part 10: raise; lists of one's own; the law's box of digits. -/
namespace VL
open PySem PySem.Spec PyProof.Rows L2

/-! ### raise C(e), C an own class with one field -/
/-- what the __init__ of an error with one field leaves -/
def spInit (C : Addr) (f : Str) : Sp := fun vs H Q _ => ∃ (a : Addr) (y : V), vs = [.ref a, y] ∧ H a = some (exo a C none) ∧ ∀ dx, H dx = none → dx ≠ a → Q .non (upd (upd H dx (exd dx [(f, y)])) a (exo a C (some dx)))
/-- the class x, number k, with one field f -/
structure Ec (P : Program) (w : World) (K : PySem.W.Frag) (mg : Str → Option Value) (base : Heap) (c : Cn) (j : Nat) (x : Str) (k : Nat) (f : Str) : Prop where
  gC : mg x = some (.ref (c.cA k))
  T : OexC K (c.cA k)
  ex : ∃ (fI : Addr) (fd : FuncData) (ps : List Str), ps.length = 2 ∧ PySem.W.findIn K (.ref (c.cA k)) "__init__" = some (some (.ref fI)) ∧ PySem.W.typeIn K (.ref fI) = some (.type "function") ∧
    FnOk P w K mg base (L2.CX P w) j fI fd ps (spInit (c.cA k) f) ∧ Binds K fd ps []
def sRaise (k : Nat) (f : Str) (g : GE) : GS := fun ρ => (g ρ).bind fun a => .raise (⟨k, [(f, a.1)]⟩, a.2)
section
variable {c : Cn} {X : Cx} {W : WX} {pn : Nat → Bool} {e : Expr} {ge : GE} {pos pos2 p : Pos}
theorem vs_raise {x f : Str} {k j r : Nat} (hk : c.K = X.K) (T : Ec X.prog X.w X.K X.mg X.base c j x k f) (hr : Room r X.A) (hj : j + 1 ≤ r) (hc : X.calm = true) (tk : Takes X W) (hg : Gl X x) (he : PE X e (tE c W ge))
    (hdb : (x == ("__debug__" : Str)) = false := by decide) (hs : starEach [e] X.env = (false, eval e X.env) :: starEach [] X.env := by rfl) :
    PS X (.Raise (some (.Call (.Name x p) [e] [] pos)) none pos2) (tS c pn W (sRaise k f ge)) := by
  obtain ⟨fI, fd, ps, hp, iC, tI', G, hb⟩ := T.ex
  refine imp_PS (ps_raise hc tk (pmk_oex (C := c.cA k) T.T iC tI' G (hr.mono hj) hb .nil passL hg T.gC (pa_cons he pa_nil hs) hdb hs)) fun D σ H ⟨ρ, F, er, z⟩ => ?_
  refine tE_bindS er z fun v ρ1 w F1 H1 st rep h1 => ⟨by show 1 ≤ 1000; decide, fun a ha => ⟨a, w, rfl, upd_same, fun dx hd hne => ⟨rfl, dx, [(f, w)], upd_same, ?_, ?_, ?_⟩⟩⟩
  · rw [upd_ne hne, upd_same]
  · rw [upd_ne hne] at hd
    exact hd
  · have hd : H1 dx = none := by rw [upd_ne hne] at hd; exact hd
    have gr : Grow F1 H1 F1 (upd (del (upd (upd (upd H1 a (exo a (c.cA k) none)) dx (exd dx [(f, w)])) a (exo a (c.cA k) (some dx))) a) dx (.xd [(f, w)])) := by
      have hh : Same H1 (upd (del (upd (upd (upd H1 a (exo a (c.cA k) none)) dx (exd dx [(f, w)])) a (exo a (c.cA k) (some dx))) a) dx (.xd [(f, w)])) := fun b o q => by
        have n1 := ne_of_none q ha
        have n2 := ne_of_none q hd
        rw [upd_ne n2, del_ne n1, upd_ne n1, upd_ne n2, upd_ne n1]
        exact q
      exact ⟨Same.refl F1, hh, st.2.sub.trans hh, fun _ _ _ z => z⟩
    exact h1 (some dx) σ F1 _ ⟨gr.stp _, st.2.grow gr, fun _ _ => rfl, rfl⟩ (.inl ⟨dx, [(f, w)], rfl, upd_same, .cons rep .nil⟩)
end

/-! ### a list of one's own: read -/
def eIxO (i : Nat) (g : GE) : GE := fun ρ => if ownAt ρ i = true then (g ρ).bind fun a => match a.2[i]? with
  | some (.ow xs) => lift (pIx (.lst none xs) a.1) a.2
  | _ => .stuck
  else .stuck
/-- an operation on it whose result is a scalar -/
def oneO (f : PV → Option PV) (i : Nat) (ρ : Env') : Wp XE' (PV × Env') := match ρ[i]? with
  | some (.ow xs) => match f (.lst none xs) with
    | some v => if (scV v).isSome = true then .ret (v, ρ) else .stuck
    | none => .stuck
  | _ => .stuck
def eO1 (f : PV → Option PV) (i : Nat) : GE := oneO f i
/-- e op x -/
def eO2 (f : PV → PV → Option PV) (g : GE) (i : Nat) : GE := fun ρ => (g ρ).bind fun a => oneO (f a.1) i a.2
section
variable {c : Cn} {X : Cx} {W : WX} {pn : Nat → Bool} {a b e : Expr} {ga gb : GE} {pos p : Pos} {i : Nat}
theorem ownAt_ow {F H : Hp} {σ : St} {ρ : Env'} {xs : List PV} (h : ρ[i]? = some (.ow xs)) : ownAt ρ i = true := by unfold ownAt; rw [h]; rfl
theorem ve_ixO {ga : GE} (hk : c.K = X.K) (ho : PE X a (tVar i)) (hb : PE X b (tE c W ga)) (hs : PlainIx b := by intro _ _; rfl) : PE X (.Subscript a b pos) (tE c W (eIxO i ga)) := imp_PE (pe_ix ix_list ho hb hs) fun σ H Q ⟨ρ, F, er, z⟩ => by
  unfold eIxO at z
  by_cases ho : ownAt ρ i = true
  · rw [if_pos ho] at z
    obtain ⟨u, hu⟩ := ownAt_val er ho
    refine ⟨u, hu, tE_bind er z fun v ρ1 w F1 H1 st rep h1 => ?_⟩
    dsimp only at h1
    split at h1
    · rename_i xs hi
      obtain ⟨y, e, h4⟩ := lift_run h1
      obtain ⟨q, vs, e1, hF, hH, r⟩ := st.2.ow hi
      rw [hu] at e1
      cases e1
      cases rep with
      | int k =>
        obtain ⟨w, h2, h3⟩ := r.atI (show L2.atI xs k = some y from e)
        exact ⟨q, vs, k, w, rfl, rfl, SqL.of hH, h2, h4 w F1 H1 st h3⟩
      | _ => cases e
    · exact h1.elim
  · rw [if_neg ho] at z
    exact z.elim
theorem scalar_rep {F F' : Hp} {w : V} {v : PV} (h : (scV v).isSome = true) (r : Rep c F w v) : Rep c F' w v := by
  cases r with
  | non => exact .non
  | bl b => exact .bl b
  | int j => exact .int j
  | str x => exact .str x
  | _ => cases h
/-- a list of one's own is a tree of the whole heap -/
theorem ow_rep {F H : Hp} {σ : St} {ρ : Env'} {xs : List PV} (er : ER c F H σ ρ) (h : ρ[i]? = some (.ow xs)) : ∃ w, σ[i]? = some (some w) ∧ Rep c H w (.lst none xs) := by
  obtain ⟨q, vs, e1, hF, hH, r⟩ := er.ow h
  exact ⟨.ref q, e1, .lst hH (r.mono er.sub) fun _ z => nomatch z⟩
theorem oneO_run {f : PV → Option PV} {r : V → Hp → VK → Prop} (hf : Op1 c f r) {σ : St} {ρ ρ0 : Env'} {F H F0 H0 : Hp} {Q : VK} {E : XE' → Prop} (st : StpE c σ ρ0 F0 H0 ρ F H) (z : (oneO f i ρ).run (OkE c σ ρ0 F0 H0 Q) E) : ∃ w, σ[i]? = some (some w) ∧ r w H Q := by
  unfold oneO at z
  split at z
  · rename_i xs hi
    obtain ⟨w, h1, h2⟩ := ow_rep st.2 hi
    refine ⟨w, h1, ?_⟩
    split at z
    · rename_i v hv
      split at z
      · rename_i hs
        exact hf H H w _ v Q (Same.refl H) h2 hv fun u F' H' gr rp => z u F H' (st.trans (Grow.stpE st.2 ⟨Same.refl F, gr.hh, st.2.sub.trans gr.hh, fun _ _ _ q => q⟩)) (scalar_rep hs rp)
      · exact z.elim
    · exact z.elim
  · exact z.elim
theorem oneO_pre {f : PV → Option PV} {ρ : Env'} {K : PV × Env' → Prop} {E : XE' → Prop} (z : (oneO f i ρ).run K E) : ∃ xs, ρ[i]? = some (.ow xs) := by
  unfold oneO at z
  split at z
  · rename_i xs hi
    exact ⟨xs, hi⟩
  · exact z.elim
theorem ve_callBO {x : Str} {id : String} {r : List V → Hp → VK → Prop} {f : PV → Option PV} (hc : CallR X (.builtin id) r) (hf : Op1 c f fun x => r [x]) (hg : Gl X x) (hm : X.mg x = none) (hv : bootBuiltins x = some (.builtin id)) (ha : PE X a (tVar i))
    (hn : x ≠ "__name__" := by decide) (hdb : (x == ("__debug__" : Str)) = false := by decide) (he : starEach [a] X.env = (false, eval a X.env) :: starEach [] X.env := by rfl) : PE X (.Call (.Name x p) [a] [] pos) (tE c W (eO1 f i)) :=
  imp_PE (pe_callB hc hg hm hv (pa_cons ha pa_nil he) hn hdb he) fun σ H Q ⟨ρ, F, er, z⟩ => oneO_run hf (StpE.refl er) z
theorem oneO_run2 {f : PV → PV → Option PV} {r : R2} (hf : Op2 c f r) {σ : St} {ρ ρ0 : Env'} {F H F0 H0 : Hp} {Q : VK} {E : XE' → Prop} {y : V} {u : PV} (ry : Rep c F y u) (st : StpE c σ ρ0 F0 H0 ρ F H) (z : (oneO (f u) i ρ).run (OkE c σ ρ0 F0 H0 Q) E) :
    ∃ w, σ[i]? = some (some w) ∧ r y w H Q := by
  unfold oneO at z
  split at z
  · rename_i xs hi
    obtain ⟨w, h1, h2⟩ := ow_rep st.2 hi
    refine ⟨w, h1, ?_⟩
    split at z
    · rename_i v hv
      split at z
      · rename_i hs
        exact hf H H y w u _ v Q (Same.refl H) (ry.mono st.2.sub) h2 hv fun u F' H' gr rp => z u F H' (st.trans (Grow.stpE st.2 ⟨Same.refl F, gr.hh, st.2.sub.trans gr.hh, fun _ _ _ q => q⟩)) (scalar_rep hs rp)
      · exact z.elim
    · exact z.elim
  · exact z.elim
/-- e in x -/
theorem ve_cmpO {op : CmpOp} {r : R2} {f : PV → PV → Option PV} (ho : OpR X (compareOp op) r) (hf : Op2 c f r) (hm : behindInMarks op b = false) (ha : PE X a (tE c W ga)) (hb : PE X b (tVar i)) :
    PE X (.Compare a [op] [b] pos) (tE c W (eO2 f ga i)) := imp_PE (pe_cmpR ho ha hb hm) fun σ H Q ⟨ρ, F, er, z⟩ => tE_bind er z fun v ρ1 w F1 H1 st rep h1 => oneO_run2 hf rep st h1
/-- x == e -/
def eO3 (f : PV → PV → Option PV) (i : Nat) (g : GE) : GE := fun ρ => if ownAt ρ i = true then (g ρ).bind fun a => oneO (fun u => f u a.1) i a.2 else .stuck
theorem ve_cmpO3 {op : CmpOp} {r : R2} {f : PV → PV → Option PV} (ho : OpR X (compareOp op) r) (hf : Op2 c f r) (hm : behindInMarks op b = false) (ha : PE X a (tVar i)) (hb : PE X b (tE c W ga)) :
    PE X (.Compare a [op] [b] pos) (tE c W (eO3 f i ga)) := imp_PE (pe_cmpR ho ha hb hm) fun σ H Q ⟨ρ, F, er, z⟩ => by
  unfold eO3 at z
  by_cases h : ownAt ρ i = true
  · rw [if_pos h] at z
    obtain ⟨u, hu⟩ := ownAt_val er h
    refine ⟨u, hu, tE_bind er z fun v ρ1 w F1 H1 st rep h1 => ?_⟩
    obtain ⟨u', h2, h3⟩ := oneO_run2 (f := fun a b => f b a) (r := fun x y H Q => r y x H Q) (fun F H x y a b v Q s ra rb e q => hf F H y x b a v Q s rb ra e q) rep st h1
    rw [hu] at h2
    cases h2
    exact h3
  · rw [if_neg h] at z
    exact z.elim

/-! ### .. written -/
def sAppO (i : Nat) (g : GE) : GS := fun ρ => if ownAt ρ i = true then (g ρ).bind fun a => match a.2[i]? with
  | some (.ow xs) => if xs.length < sizeLine then .ret (.nx (a.2.set i (.ow (xs ++ [a.1])))) else .stuck
  | _ => .stuck
  else .stuck
def sPutO (i : Nat) (gk gv : GE) : GS := fun ρ => (gv ρ).bind fun v => if ownAt v.2 i = true then (gk v.2).bind fun k => match k.2[i]? with
  | some (.ow xs) => match k.1 with
    | .int z => match ixN xs.length z with
      | some j => .ret (.nx (k.2.set i (.ow (xs.set j v.1))))
      | none => .stuck
    | _ => .stuck
  | _ => .stuck
  else .stuck
/-- what stands at a list of one's own is changed -/
theorem put_own {F H : Hp} {σ : St} {ρ : Env'} {q : Addr} {vs ws : List V} {xs ys : List PV} (er : ER c F H σ ρ) (hi : ρ[i]? = some (.ow xs)) (hq : σ[i]? = some (some (.ref q))) (hF : F q = none) (hH : H q = some (.lst vs)) (r : Reps c F ws ys) :
    StpS c pn σ ρ F H σ (ρ.set i (.ow ys)) F (upd H q (.lst ws)) := by
  have hil : i < ρ.length := (List.getElem?_eq_some_iff.mp hi).1
  have get : ∀ {j : Nat} {s : SV}, (ρ.set i (.ow ys))[j]? = some s → s.own = true → ∃ t, ρ[j]? = some t ∧ t.own = true := fun {j s} h o => by
    by_cases hj : i = j
    · subst hj; exact ⟨_, hi, rfl⟩
    · rw [List.getElem?_set_ne hj] at h; exact ⟨s, h, o⟩
  have oq : Own σ ρ q := ⟨i, _, hq, hi, rfl⟩
  refine ⟨⟨Same.refl F, fun p o e n => ⟨?_, fun z => z⟩, fun p o e => ?_, fun p ⟨j, s, a, b, d⟩ => ?_⟩, ⟨fun b u h => ?_, by rw [List.length_set]; exact er.len, fun j o s a b => ?_, fun j k s t p a b a' b' d d' => ?_, fun p b => by
    by_cases e : p = q
    · subst e; exact ⟨_, upd_same⟩
    · rw [upd_ne e]; exact er.mrk p b⟩, fun _ _ => rfl, rfl⟩
  · rw [upd_ne fun z => n (by rw [z]; exact oq)]; exact e
  · by_cases hp : p = q
    · subst hp; exact ⟨_, upd_same⟩
    · exact ⟨o, by rw [upd_ne hp]; exact e⟩
  · obtain ⟨t, h1, h2⟩ := get b d
    exact .inl ⟨j, t, a, h1, h2⟩
  · rw [upd_ne (ne_of_none h hF)]; exact er.sub _ _ h
  · by_cases hj : i = j
    · subst hj
      rw [List.getElem?_set_self hil] at b
      cases b
      rw [hq] at a
      cases a
      exact ⟨q, ws, rfl, hF, upd_same, r⟩
    · rw [List.getElem?_set_ne hj] at b
      have z := er.slot j o s a b
      have ne : ∀ p, o = some (.ref p) → s.own = true → p ≠ q := fun p e1 e2 e3 => by
        subst e3
        subst e1
        exact hj (er.dis i j (.ow xs) s p hq a hi b rfl e2)
      cases s with
      | un => trivial
      | fz x => exact z
      | ow zs => obtain ⟨p, us, e, f, h, rp⟩ := z; exact ⟨p, us, e, f, by rw [upd_ne (ne p e rfl)]; exact h, rp⟩
      | bx n => obtain ⟨p, us, e, f, h, rp⟩ := z; exact ⟨p, us, e, f, by rw [upd_ne (ne p e rfl)]; exact h, rp⟩
  · obtain ⟨t1, h1, h2⟩ := get a' d
    obtain ⟨t2, h3, h4⟩ := get b' d'
    exact er.dis j k t1 t2 p a b h1 h3 h2 h4
theorem vs_appO {o : Expr} {apos : Pos} (ho : PE X o (tVar i)) (ha : PE X a (tE c W ga)) (hbase : attributeBase o "append" X.env (eval o X.env) = eval o X.env := by rfl)
    (hfew : ((backTo p (starEach [a] X.env)).all (fun x => !x.1) && (backToKw p (keywordEach [] X.env)).all (fun x => x.1.isSome) && decide ([a].length + ([] : List Keyword).length + (if ([] : List Keyword).isEmpty then 0 else 1) < 30)) = true := by rfl)
    (hline : (apos.endLine == p.line) = true := by rfl) (hs : starEach [a] X.env = (false, eval a X.env) :: starEach [] X.env := by rfl) (hsw : swapsWith (.Call (.Attribute o "append" apos) [a] [] p) none pos.line X.env = pure false := by rfl) :
    PS X (.Expr (.Call (.Attribute o "append" apos) [a] [] p) pos) (tS c pn W (sAppO i ga)) :=
  imp_PS (ps_expr (pe_bm PySem.F.plainAttrs_list PySem.F.slot_list_append PySem.F.type_list_append mt_append ho (pa_cons ha pa_nil hs) hbase hfew hline hs) hsw) fun D σ H ⟨ρ, F, er, z⟩ => by
    unfold sAppO at z
    by_cases h : ownAt ρ i = true
    · rw [if_pos h] at z
      obtain ⟨u, hu⟩ := ownAt_val er h
      obtain ⟨q0, vs0, e0, hq0⟩ : ∃ q vs, u = .ref q ∧ H q = some (.lst vs) := by
        unfold ownAt at h
        split at h
        · rename_i s hs'
          have z0 := er.slot i _ s hu hs'
          cases s with
          | un => cases h
          | fz v => cases h
          | ow xs => obtain ⟨p, vs, e, _, e2, _⟩ := z0; cases e; exact ⟨p, vs, rfl, e2⟩
          | bx n => obtain ⟨p, vs, e, _, e2, _⟩ := z0; cases e; exact ⟨p, vs, rfl, e2⟩
        · cases h
      subst e0
      refine ⟨.ref q0, hu, .inl ⟨rfl, _, SqL.of hq0⟩, tE_bindS er z fun v ρ1 w F1 H1 st rep h1 => ?_⟩
      dsimp only at h1
      split at h1
      · rename_i xs hi
        obtain ⟨q, vs, e1, hF, hH, r⟩ := st.2.ow hi
        rw [hu] at e1
        cases e1
        split at h1
        · rename_i hz
          exact ⟨_, vs, w, rfl, rfl, hH, by rw [r.length]; exact hz, h1 σ F1 _ (put_own st.2 hi hu hF hH (r.append (.cons rep .nil)))⟩
        · exact h1.elim
      · exact h1.elim
    · rw [if_neg h] at z
      exact z.elim
theorem vs_putO {o k v : Expr} {gk gv : GE} {tpos : Pos} (ho : PE X o (tVar i)) (hk : PE X k (tE c W gk)) (hv : PE X v (tE c W gv))
    (ha : ∀ v, assign (.Subscript o k tpos) X.env v = (do
      let ov ← holding [v] (eval o X.env)
      let iv ← holding [v, ov] (eval k X.env)
      standAt tpos
      holding [v, ov, iv] (setItem ov iv v)
      release [v, ov, iv] []) := by intro _; rfl)
    (hs : swapsWithSole [.Subscript o k tpos] v pos.line X.env = pure false := by rfl) (hw : swappedStores [.Subscript o k tpos] v X.env = pure none := by rfl)
    (h1 : (assignEach [.Subscript o k tpos] X.env).map (·.2) = [assign (.Subscript o k tpos) X.env] := by rfl) : PS X (.Assign [.Subscript o k tpos] v pos) (tS c pn W (sPutO i gk gv)) :=
  imp_PS (ps_asg hv (pg_sub ho hk set_list ha) hs hw h1) fun D σ H ⟨ρ, F, er, z⟩ => tE_bindS er z fun v ρ1 w F1 H1 st rep h1 => by
    dsimp only at h1
    by_cases h : ownAt ρ1 i = true
    · rw [if_pos h] at h1
      obtain ⟨u, hu⟩ := ownAt_val st.2 h
      refine ⟨u, hu, tE_bindS st.2 h1 fun k ρ2 y F2 H2 st2 rep2 h2 => ?_⟩
      dsimp only at h2
      split at h2
      · rename_i xs hi
        obtain ⟨q, vs, e1, hF, hH, r⟩ := st2.2.ow hi
        rw [hu] at e1
        have e2 : u = V.ref q := Option.some.inj (Option.some.inj e1)
        subst e2
        split at h2
        · rename_i z
          split at h2
          · rename_i j hj
            cases rep2
            exact ⟨_, vs, z, j, rfl, rfl, hH, by rw [r.length]; exact hj, h2 σ F2 _ (put_own st2.2 hi hu hF hH (r.set (rep.mono st2.1.ff) j))⟩
          · exact h2.elim
        · exact h2.elim
      · exact h2.elim
    · rw [if_neg h] at h1
      exact h1.elim
end
end VL

set_option Elab.async false
set_option linter.all false
set_option maxRecDepth 100000
set_option maxHeartbeats 1000000
/-! VL, part 11: words for printed proofs. -/
namespace VL
open PySem PySem.Spec PyProof.Rows L2

/-! ### the built-ins' names -/
theorem b_len : bootBuiltins "len" = some (.builtin "len") := by decide +kernel
theorem b_abs : bootBuiltins "abs" = some (.builtin "abs") := by decide +kernel
theorem b_max : bootBuiltins "max" = some (.builtin "max") := by decide +kernel
theorem b_min : bootBuiltins "min" = some (.builtin "min") := by decide +kernel
theorem b_sum : bootBuiltins "sum" = some (.builtin "sum") := by decide +kernel
theorem b_all : bootBuiltins "all" = some (.builtin "all") := by decide +kernel
theorem b_any : bootBuiltins "any" = some (.builtin "any") := by decide +kernel
theorem b_sorted : bootBuiltins "sorted" = some (.builtin "sorted") := by decide +kernel
theorem b_isinstance : bootBuiltins "isinstance" = some (.builtin "isinstance") := by decide +kernel
theorem b_int : bootBuiltins "int" = some (.type "int") := by decide +kernel
theorem b_bool : bootBuiltins "bool" = some (.type "bool") := by decide +kernel
theorem b_str : bootBuiltins "str" = some (.type "str") := by decide +kernel
theorem b_list : bootBuiltins "list" = some (.type "list") := by decide +kernel
theorem b_tuple : bootBuiltins "tuple" = some (.type "tuple") := by decide +kernel
theorem b_dict : bootBuiltins "dict" = some (.type "dict") := by decide +kernel
theorem b_set : bootBuiltins "set" = some (.type "set") := by decide +kernel
def noPin : Nat → Bool := fun _ => false
def pin0 : Nat → Bool := fun i => i == 0
theorem hu65 {k : Nat} {A : Around} (hr : Room k A) : A.units + 65 < cLine := by have := hr.un; omega
theorem hu64 {k : Nat} {A : Around} (hr : Room k A) : A.units + 64 < cLine := hr.units
theorem hu1 {k : Nat} {A : Around} (hr : Room k A) : A.units + 1 < cLine := hu_of hr
/-- a def of the text at its name -/
def Dh (K : PySem.W.Frag) (mg : Str → Option Value) (x : Str) (st : Stmt) : Prop := ∃ (f : Addr) (fd : FuncData), mg x = some (.ref f) ∧ Fun K x x st f fd

/-! ### a op b op c -/
def eChain (f h : PV → PV → Option PV) (ga gb gc : GE) : GE := fun ρ => (ga ρ).bind fun a => (gb a.2).bind fun b => match f a.1 b.1 with
  | some (.bl true) => (gc b.2).bind fun d => lift (h b.1 d.1) d.2
  | some (.bl false) => .ret (.bl false, b.2)
  | _ => .stuck
section
variable {c : Cn} {X : Cx} {W : WX} {pn : Nat → Bool} {a b d : Expr} {ga gb gc : GE} {pos : Pos}
/-- an operation that gives a bool at the heap as it stands -/
def Op2B (c : Cn) (f : PV → PV → Option PV) (r : R2) : Prop := ∀ (F H : Hp) (x y : V) (a b : PV) (k : Bool) (Q : VK), Same F H → Rep c F x a → Rep c F y b → f a b = some (.bl k) → Q (.bl k) H → r x y H Q
theorem o_ltB : Op2B c pLt (rI0 fun i j => .bl (decide (i < j))) := fun F H x y a b k Q s ra rb e q => by
  cases ra <;> cases rb <;> first | (cases e; exact ⟨_, _, rfl, rfl, q⟩) | cases e
theorem o_leB : Op2B c pLe (rI0 fun i j => .bl (decide (i ≤ j))) := fun F H x y a b k Q s ra rb e q => by
  cases ra <;> cases rb <;> first | (cases e; exact ⟨_, _, rfl, rfl, q⟩) | cases e
theorem o_gtB : Op2B c pGt (rI0 fun i j => .bl (decide (j < i))) := fun F H x y a b k Q s ra rb e q => by
  cases ra <;> cases rb <;> first | (cases e; exact ⟨_, _, rfl, rfl, q⟩) | cases e
theorem o_geB : Op2B c pGe (rI0 fun i j => .bl (decide (j ≤ i))) := fun F H x y a b k Q s ra rb e q => by
  cases ra <;> cases rb <;> first | (cases e; exact ⟨_, _, rfl, rfl, q⟩) | cases e
theorem chain_run {r r' : R2} {f h : PV → PV → Option PV} (hf : Op2B c f r) (hh : Op2 c h r') {σ : St} {H : Hp} {Q : VK} (z : tE c W (eChain f h ga gb gc) σ H Q) : tChain r r' (tE c W ga) (tE c W gb) (tE c W gc) σ H Q := by
  obtain ⟨ρ, F, er, z⟩ := z
  refine tE_bind er z fun v ρ1 w F1 H1 st rep h1 => tE_bind st.2 h1 fun u ρ2 y F2 H2 st2 rep2 h2 => ?_
  dsimp only at h2
  split at h2
  · rename_i e
    refine hf F2 H2 w y v u true _ st2.2.sub (rep.mono st2.1.ff) rep2 e ⟨true, rfl, ?_⟩
    rw [if_pos rfl]
    refine tE_bind st2.2 h2 fun t ρ3 x F3 H3 st3 rep3 h3 => ?_
    obtain ⟨q, e, h4⟩ := lift_run h3
    exact hh F3 H3 y x u t q Q st3.2.sub (rep2.mono st3.1.ff) rep3 e fun w' F' H' gr r => h4 w' F' H' (st.trans (st2.trans (st3.trans (gr.stpE st3.2)))) r
  · rename_i e
    refine hf F2 H2 w y v u false _ st2.2.sub (rep.mono st2.1.ff) rep2 e ⟨false, rfl, ?_⟩
    rw [if_neg Bool.false_ne_true]
    exact h2 _ F2 H2 (st.trans st2) (.bl false)
  · exact h2.elim
theorem ve_chain {op op' : CmpOp} {r r' : R2} {f h : PV → PV → Option PV} (ho : OpR X (compareOp op) r) (hf : Op2B c f r) (ho' : OpR X (compareOp op') r') (hh : Op2 c h r') (ha : PE X a (tE c W ga)) (hb : PE X b (tE c W gb)) (hd : PE X d (tE c W gc))
    (hm : lastMarks [op, op'] [b, d] = false := by with_unfolding_all rfl) : PE X (.Compare a [op, op'] [b, d] pos) (tE c W (eChain f h ga gb gc)) := imp_PE (pe_chain ho ho' ha hb hd hm) fun _ _ _ z => chain_run hf hh z
theorem vt_chain {op op' : CmpOp} {r r' : R2} {f h : PV → PV → Option PV} (ho : OpR X (compareOp op) r) (hf : Op2B c f r) (ho' : OpR X (compareOp op') r') (hh : Op2 c h r') (ha : PE X a (tE c W ga)) (hb : PE X b (tE c W gb)) (hd : PE X d (tE c W gc))
    (hm : lastMarks [op, op'] [b, d] = false := by with_unfolding_all rfl) : PT X (.Compare a [op, op'] [b, d] pos) (tT c W (gBl (eChain f h ga gb gc))) :=
  imp_PT (pt_chain ho ho' ha hb hd hm) fun σ H Q z => chain_run (W := W) (Q := fun x H' => ∃ k, x = .bl k ∧ Q k H') hf hh (gBl_use z)
theorem vt_pw {e : Expr} {g : GT} (h : PW X e (tT c W g)) : PT X e (tT c W g) := h.pt
end

/-! ### name = a comprehension, the name a plain local -/
section
variable {c : Cn} {X : Cx} {W : WX} {pn : Nat → Bool}
theorem lc_read {is : List Nat} {gi : GI} {g : TG} {f : GG} {gt : GT} {ge : GE} (hgf : TgOk c is g f) {σ : St} {H : Hp} {Q : VK} (z : tL c W (lLc is gi f gt ge) σ H Q) : tLc (tI c W gi) g (tT c W0 gt) (tE c W0 ge) is σ H Q := by
  obtain ⟨ρ, F, er, z⟩ := z
  refine ⟨ρ, F, er, (gi ρ).mono (fun r h1 J F1 H1 st wk D hD => ?_) (fun _ q => q) z⟩
  dsimp only at h1
  by_cases hz : r.1.length ≤ sizeLine ∧ frozenAt r.2 is = true
  · rw [if_pos hz] at h1
    have h2 : (lcLoop is f gt ge r.1 r.2).run (fun q => OkL c σ ρ F H Q (q.1, backE q.2 r.2 is)) (fun _ => False) := h1
    have hFD : F1 D = none := st.2.sub.free hD
    have g0 := (upd_growH (o := .lst []) st.2.sub hD).stp (Own (wipe σ is) (wipeE r.2 is))
    have no0 : ¬ Own (wipe σ is) (wipeE r.2 is) D := not_own_new (st.2.wipe is) hD
    have start : LcAt c is f gt ge σ r.2 F1 H1 D r.1 (fun q => OkL c σ ρ F H Q (q.1, backE q.2 r.2 is)) 0 (upd H1 D (.lst [])) :=
      ⟨[], [], r.2, F1, Nat.le_refl _, upd_same, hFD, no0, ⟨g0.ff, g0.hh, g0.th, fun p q => q.elim .inl fun e => .inr (by rw [e]; exact hD)⟩, er_upd (st.2.wipe is) hFD no0, .nil, h2⟩
    refine ⟨fun i m H' => m = r.1.length - i ∧ i ≤ r.1.length ∧ LcAt c is f gt ge σ r.2 F1 H1 D r.1 (fun q => OkL c σ ρ F H Q (q.1, backE q.2 r.2 is)) i H', ⟨_, rfl, Nat.zero_le _, start⟩, fun i m H' hW => ?_⟩
    obtain ⟨rfl, hle, h⟩ := hW
    by_cases hi : i < r.1.length
    · obtain ⟨go, turn⟩ := lc_turn wk hz.1 hgf h hi
      exact .inr ⟨go, fun H' => LcAt c is f gt ge σ r.2 F1 H1 D r.1 (fun q => OkL c σ ρ F H Q (q.1, backE q.2 r.2 is)) (i + 1) H', fun H' n => ⟨r.1.length - (i + 1), by omega, rfl, hi, n⟩, turn⟩
    · have e : i = r.1.length := by omega
      subst e
      obtain ⟨acc, accP, ρ', F', hl, hDv, hF, no, st', er', rep, run⟩ := h.ex
      rw [List.drop_length] at run
      have q : OkL c σ ρ F H Q (accP ++ [], backE ρ' r.2 is) := run
      rw [List.append_nil] at q
      obtain ⟨er2, ow2⟩ := er_back' st.2 st'.ff er' hz.2
      rw [backE_wipe] at er2 ow2
      refine .inl ⟨wk.stop H' (st'.ff.trans er'.sub), q D acc F' H' ⟨st.1.trans ((st'.more fun p z => own_wipe z).less fun p z => .inl (ow2 p z)), er2⟩ ?_ hF hDv (fun z => no (ow2 D z)) rep⟩
      cases e : H D with
      | none => rfl
      | some o =>
        obtain ⟨o', e'⟩ := st.1.th D o e
        rw [hD] at e'
        cases e'
  · rw [if_neg hz] at h1
    exact h1.elim
variable {elt tg iter : Expr} {ifs : List Expr} {scope : Scope} {own : List (Str × Nat)} {is : List Nat} {pos spos py : Pos} {gi : GI} {g : TG} {f : GG} {gt : GT} {ge : GE} {i : Nat} {y : Str}
theorem tL_any {gl : GL} {σ : St} {H : Hp} {Q : VK} (z : tE c W (eLst gl) σ H Q) : tL c W gl σ H Q := by
  obtain ⟨ρ, F, er, z⟩ := z
  exact ⟨ρ, F, er, (gl ρ).mono (fun r (q : OkE c σ ρ F H Q (.lst none r.1, r.2)) p vs F' H' st hn hF hH no rep => by
    have f := freeze_grow st.2.sub hF hH
    refine q (.ref p) (upd F' p (.lst vs)) H' ⟨⟨st.1.ff.trans f.1, fun b o h n => ?_, st.1.th, st.1.ow⟩, freeze_er st.2 hF hH no⟩ (.lst upd_same (rep.mono f.1) (fun _ z => nomatch z))
    obtain ⟨h1, h2⟩ := st.1.hh b o h n
    exact ⟨h1, fun z => by rw [upd_ne (ne_of_none h hn)]; exact h2 z⟩) (fun _ q => q) z⟩
theorem vs_setLc (hc : X.calm = true) (hN : X.N.Nodup) (hy : X.N[i]? = some y) (hyl : X.env.scope.names.lookup y = some .local) (hp : pn i = false)
    (hsw : swapsWith (.ListComp elt [⟨tg, iter, ifs, 0⟩] scope pos) (some (.Name y py)) spos.line X.env = pure true) (hi : PI X tg iter (tI c W gi)) (ok : BlkOk X.N X.env.scope scope own)
    (hg : ∀ (s : Shared) (H : Hp) (C : Addr) (cl : List (Str × Addr)) (fp : List Addr), PG (X.blk s H scope (compEnvC scope cl C X.env) fp) tg g) (hgf : TgOk c is g f)
    (ht : ∀ (s : Shared) (H : Hp) (C : Addr) (cl : List (Str × Addr)) (fp : List Addr), PTs (X.blk s H scope (compEnvC scope cl C X.env) fp) ifs (tT c W0 gt))
    (he : ∀ (s : Shared) (H : Hp) (C : Addr) (cl : List (Str × Addr)) (fp : List Addr), PE (X.blk s H scope (compEnvC scope cl C X.env) fp) elt (tE c W0 ge)) (his : own.map (·.2) = is := by rfl) (hs : ∀ x, foldedSetIterable iter X.env x = pure x := by intro _; rfl) :
    PS X (.Assign [.Name y py] (.ListComp elt [⟨tg, iter, ifs, 0⟩] scope pos) spos) (tS c pn W (sSet i (eLst (lLc is gi f gt ge)))) := by
  subst his
  exact imp_PS (ps_setLc hc hN hy hyl hsw hi ok hg ht he hs) fun D σ H ⟨ρ, F, er, z⟩ => lc_read hgf (tL_any (tE_bindS er z fun v ρ1 w F1 H1 st rep h1 => h1 _ F1 H1
    ⟨(Stp.refl F1 H1 _).less fun p q => own_set q, st.2.set rep, (fun j hj => List.getElem?_set_ne (fun q => by subst q; rw [hp] at hj; cases hj)), List.length_set⟩))
theorem vs_ownLc (hc : X.calm = true) (hN : X.N.Nodup) (hy : X.N[i]? = some y) (hyl : X.env.scope.names.lookup y = some .local) (hp : pn i = false)
    (hsw : swapsWith (.ListComp elt [⟨tg, iter, ifs, 0⟩] scope pos) (some (.Name y py)) spos.line X.env = pure true) (hi : PI X tg iter (tI c W gi)) (ok : BlkOk X.N X.env.scope scope own)
    (hg : ∀ (s : Shared) (H : Hp) (C : Addr) (cl : List (Str × Addr)) (fp : List Addr), PG (X.blk s H scope (compEnvC scope cl C X.env) fp) tg g) (hgf : TgOk c is g f)
    (ht : ∀ (s : Shared) (H : Hp) (C : Addr) (cl : List (Str × Addr)) (fp : List Addr), PTs (X.blk s H scope (compEnvC scope cl C X.env) fp) ifs (tT c W0 gt))
    (he : ∀ (s : Shared) (H : Hp) (C : Addr) (cl : List (Str × Addr)) (fp : List Addr), PE (X.blk s H scope (compEnvC scope cl C X.env) fp) elt (tE c W0 ge)) (his : own.map (·.2) = is := by rfl) (hs : ∀ x, foldedSetIterable iter X.env x = pure x := by intro _; rfl) :
    PS X (.Assign [.Name y py] (.ListComp elt [⟨tg, iter, ifs, 0⟩] scope pos) spos) (tS c pn W (sOwn i (lLc is gi f gt ge))) := by
  subst his
  exact imp_PS (ps_setLc hc hN hy hyl hsw hi ok hg ht he hs) fun D σ H ⟨ρ, F, er, z⟩ => lc_read hgf ⟨ρ, F, er, Wp.mono (lLc (own.map Prod.snd) gi f gt ge ρ) (K := fun r => (Wp.ret (.nx (r.2.set i (.ow r.1))) : Wp XE' Out).run (OkS c pn σ ρ F H D) (ErS c pn W σ ρ F H)) (E := ErS c pn W σ ρ F H) (fun r h1 p vs F1 H1 st hn hF hH no rep => by
    obtain ⟨er2, ow2⟩ := er_own (i := i) st.2 hF hH no rep
    refine h1 _ F1 H1 ⟨⟨st.1.ff, st.1.hh, st.1.th, fun q z => ?_⟩, er2, (fun j hj => List.getElem?_set_ne (fun q => by subst q; rw [hp] at hj; cases hj)), List.length_set⟩
    rcases ow2 q z with z | z
    · exact st.1.ow q z
    · subst z; exact .inr hn) (fun _ q => q.e) z⟩
end
end VL

set_option Elab.async false
set_option linter.all false
set_option maxRecDepth 100000
set_option maxHeartbeats 1000000
/-! VL, part 12: marks; what changes a tagged node. -/
namespace VL
open PySem PySem.Spec PyProof.Rows L2

/-! ### tags taken off, another mark -/
mutual
def PV.er : PV → PV
  | .tup xs => .tup (erL xs)
  | .lst _ xs => .lst none (erL xs)
  | .dic _ kvs => .dic none (erD kvs)
  | .ins k fs => .ins k (erF fs)
  | .non => .non
  | .bl b => .bl b
  | .int i => .int i
  | .str x => .str x
  | .scr ns => .scr ns
  | .any => .any
def erL : List PV → List PV
  | [] => []
  | x :: xs => x.er :: erL xs
def erD : List (Key × PV) → List (Key × PV)
  | [] => []
  | (k, x) :: xs => (k, x.er) :: erD xs
def erF : List (Str × PV) → List (Str × PV)
  | [] => []
  | (k, x) :: xs => (k, x.er) :: erF xs
end
def Cn.at (c : Cn) (B : Addr → Prop) : Cn := { c with B := B }
mutual
theorem Rep.er {c : Cn} {F : Hp} {B : Addr → Prop} : ∀ {v : V} {x : PV}, Rep c F v x → Rep (c.at B) F v x.er
  | _, _, .non => by simp only [PV.er]; exact .non
  | _, _, .bl b => by simp only [PV.er]; exact .bl b
  | _, _, .int i => by simp only [PV.er]; exact .int i
  | _, _, .str x => by simp only [PV.er]; exact .str x
  | _, _, .tup h r => by simp only [PV.er]; exact .tup h (Reps.er' r)
  | _, _, .lst h r t => by simp only [PV.er]; exact .lst h (Reps.er' r) (fun _ z => nomatch z)
  | _, _, .dic h r t => by simp only [PV.er]; exact .dic h (RepD.er r) (fun _ z => nomatch z)
  | _, _, .ins h r => by simp only [PV.er]; exact .ins h (RepF.er r)
  | _, _, .scr h => by simp only [PV.er]; exact .scr h
  | _, _, .any v => by simp only [PV.er]; exact .any v
theorem Reps.er' {c : Cn} {F : Hp} {B : Addr → Prop} : ∀ {vs : List V} {xs : List PV}, Reps c F vs xs → Reps (c.at B) F vs (erL xs)
  | _, _, .nil => by simp only [erL]; exact .nil
  | _, _, .cons h r => by simp only [erL]; exact .cons (Rep.er h) (Reps.er' r)
theorem RepD.er {c : Cn} {F : Hp} {B : Addr → Prop} : ∀ {vs : List (Key × V)} {xs : List (Key × PV)}, RepD c F vs xs → RepD (c.at B) F vs (erD xs)
  | _, _, .nil => by simp only [erD]; exact .nil
  | _, _, .cons h r => by simp only [erD]; exact .cons (Rep.er h) (RepD.er r)
theorem RepF.er {c : Cn} {F : Hp} {B : Addr → Prop} : ∀ {vs : List (Str × V)} {xs : List (Str × PV)}, RepF c F vs xs → RepF (c.at B) F vs (erF xs)
  | _, _, .nil => by simp only [erF]; exact .nil
  | _, _, .cons h r => by simp only [erF]; exact .cons (Rep.er h) (RepF.er r)
end
def SV.er : SV → SV
  | .fz v => .fz v.er
  | .ow xs => .ow (erL xs)
  | .un => .un
  | .bx n => .bx n
theorem SV.er_own (s : SV) : s.er.own = s.own := by cases s <;> rfl
/-- the owned slots are out of sight -/
def SV.hid : SV → SV
  | .fz v => .fz v
  | _ => .un
/-- only the box is known -/
def SV.bxo : SV → SV
  | .bx n => .bx n
  | _ => .un
section
variable {c : Cn} {B : Addr → Prop} {F H : Hp} {σ : St} {ρ : Env'}
theorem SlotR.er {o : Option V} {s : SV} (h : SlotR c F H o s) : SlotR (c.at B) F H o s.er := by
  cases s with
  | un => trivial
  | fz v => obtain ⟨w, e, r⟩ := h; exact ⟨w, e, r.er⟩
  | ow xs => obtain ⟨p, vs, e, f, h, r⟩ := h; exact ⟨p, vs, e, f, h, r.er'⟩
  | bx n => exact h
theorem ER.map {c c' : Cn} {F F' H H' : Hp} {f : SV → SV} (e : ER c F H σ ρ) (s : Same F' H') (hf : ∀ (i : Nat) o t, σ[i]? = some o → ρ[i]? = some t → SlotR c F H o t → SlotR c' F' H' o (f t)) (ho : ∀ t, (f t).own = true → t.own = true) (mk : ∀ p, c'.B p → ∃ o, H' p = some o) : ER c' F' H' σ (ρ.map f) := by
  refine ⟨s, by rw [List.length_map]; exact e.len, fun i o t h1 h2 => ?_, fun i j t u p h1 h2 h3 h4 h5 h6 => ?_, mk⟩
  · rw [List.getElem?_map] at h2
    obtain ⟨x, e1, rfl⟩ := Option.map_eq_some_iff.mp h2
    exact hf i o x h1 e1 (e.slot i o x h1 e1)
  · rw [List.getElem?_map] at h3 h4
    obtain ⟨x, e1, rfl⟩ := Option.map_eq_some_iff.mp h3
    obtain ⟨y, e2, rfl⟩ := Option.map_eq_some_iff.mp h4
    exact e.dis i j x y p h1 h2 e1 e2 (ho _ h5) (ho _ h6)
theorem own_map {f : SV → SV} (ho : ∀ t, (f t).own = true → t.own = true) {p : Addr} (h : Own σ (ρ.map f) p) : Own σ ρ p := by
  obtain ⟨i, s, h1, h2, h3⟩ := h
  rw [List.getElem?_map] at h2
  obtain ⟨x, e1, rfl⟩ := Option.map_eq_some_iff.mp h2
  exact ⟨i, x, h1, e1, ho _ h3⟩
theorem ER.er (e : ER c F H σ ρ) (mk : ∀ p, B p → ∃ o, H p = some o) : ER (c.at B) F H σ (ρ.map SV.er) := e.map e.sub (fun _ _ _ _ _ h => h.er) (fun t h => by rw [SV.er_own] at h; exact h) mk
theorem own_er {p : Addr} (h : Own σ (ρ.map SV.er) p) : Own σ ρ p := own_map (fun t h => by rw [SV.er_own] at h; exact h) h
theorem bxo_own {t : SV} (h : t.bxo.own = true) : t.own = true := by cases t <;> first | rfl | cases h
theorem hid_own {t : SV} : t.hid.own = false := by cases t <;> rfl
end

/-! ### tests that may change a tagged node -/
/-- the value, is a tagged node changed, the slots -/
abbrev GH := Env' → Wp XE' (Bool × Option Addr × Env')
section
variable (c : Cn)
structure ThwE (σ : St) (ρ : Env') (F H : Hp) (q : Addr) (H' : Hp) : Prop where
  nB : ¬ c.B q
  nO : ¬ Own σ ρ q
  hh : ∀ p o, p ≠ q → H p = some o → H' p = some o
  ch : (∃ vs, F q = some (.lst vs) ∧ H' q = some (.lst (vs ++ [.int 7]))) ∨ (F q = some (.dK []) ∧ H' q = some (.dK [(.inr "more", .int 7)]))
def OkH (σ : St) (ρ : Env') (F H : Hp) (Q : Bool → Hp → Prop) : Bool × Option Addr × Env' → Prop := fun r => ∀ F1 H1, StpE c σ ρ F H r.2.2 F1 H1 → (r.2.1 = none → Q r.1 H1) ∧ (∀ q, r.2.1 = some q → ∀ H', ThwE c σ r.2.2 F1 H1 q H' → Q r.1 H')
def tH (W : WX) (g : GH) : TT := fun σ H Q => ∃ ρ F, ER c F H σ ρ ∧ (g ρ).run (OkH c σ ρ F H Q) (ErE c W σ ρ F H)
def tHE (W : WX) (g : GH) : TE := fun σ H Q => ∃ ρ F, ER c F H σ ρ ∧ (g ρ).run (OkH c σ ρ F H fun b H' => Q (.bl b) H') (ErE c W σ ρ F H)
end
def hT (g : GT) : GH := fun ρ => (g ρ).bind fun a => .ret (a.1, none, a.2)
def hAnd (g : GT) (h : GH) : GH := fun ρ => (g ρ).bind fun a => if a.1 = true then h a.2 else .ret (false, none, a.2)
def hAndE (g : GE) (h : GH) : GH := fun ρ => (g ρ).bind fun a => match a.1 with
  | .bl true => h a.2
  | .bl false => .ret (false, none, a.2)
  | _ => .stuck
def hOr (g : GT) (h : GH) : GH := fun ρ => (g ρ).bind fun a => if a.1 = true then .ret (true, none, a.2) else h a.2
def hNot (g : GH) : GH := fun ρ => (g ρ).bind fun a => .ret (!a.1, a.2.1, a.2.2)
def hIf (t : GT) (g : GT) (h : GH) : GH := fun ρ => (t ρ).bind fun a => if a.1 = true then hT g a.2 else h a.2
section
variable {c : Cn} {X : Cx} {W : WX} {pn : Nat → Bool} {e a b : Expr} {rest : List Expr} {pos : Pos} {g : GS} {gt gu : GT} {gh : GH} {σ : St} {ρ ρ1 : Env'} {F H F1 H1 : Hp}
theorem OkH.step {Q : Bool → Hp → Prop} {r : Bool × Option Addr × Env'} (s : StpE c σ ρ F H ρ1 F1 H1) (h : OkH c σ ρ F H Q r) : OkH c σ ρ1 F1 H1 Q r := fun F' H' q => h F' H' (s.trans q)
theorem vt_h (h : PT X a (tT c W gt)) : PT X a (tH c W (hT gt)) := imp_PT h fun σ H Q ⟨ρ, F, er, z⟩ => tT_bind er z fun v ρ1 F1 H1 st h1 => (h1 F1 H1 st).1 rfl
theorem vh_and1 (ha : PT X a (tH c W gh)) : PW X (.BoolOp .And [a] pos) (tH c W gh) := pw_and1 ha
theorem vh_or1 (ha : PT X a (tH c W gh)) : PW X (.BoolOp .Or [a] pos) (tH c W gh) := pw_or1 ha
theorem vh_and (ha : PT X a (tT c W gt)) (hb : PW X (.BoolOp .And (b :: rest) pos) (tH c W gh)) : PW X (.BoolOp .And (a :: b :: rest) pos) (tH c W (hAnd gt gh)) :=
  imp_PW (pw_and ha hb) fun σ H Q ⟨ρ, F, er, z⟩ => tT_bind er z fun v ρ1 F1 H1 st h1 => by
    cases v with
    | true => exact ⟨ρ1, F1, st.2, (gh ρ1).mono (fun r q => OkH.step st q) (fun _ q => q) h1⟩
    | false => exact (h1 F1 H1 st).1 rfl
theorem vh_or (ha : PT X a (tT c W gt)) (hb : PW X (.BoolOp .Or (b :: rest) pos) (tH c W gh)) : PW X (.BoolOp .Or (a :: b :: rest) pos) (tH c W (hOr gt gh)) :=
  imp_PW (pw_or ha hb) fun σ H Q ⟨ρ, F, er, z⟩ => tT_bind er z fun v ρ1 F1 H1 st h1 => by
    cases v with
    | false => exact ⟨ρ1, F1, st.2, (gh ρ1).mono (fun r q => OkH.step st q) (fun _ q => q) h1⟩
    | true => exact (h1 F1 H1 st).1 rfl
theorem vh_pw (h : PW X a (tH c W gh)) : PT X a (tH c W gh) := h.pt
theorem vh_not (h : PT X a (tH c W gh)) : PT X (.UnaryOp .Not a pos) (tH c W (hNot gh)) := imp_PT (pt_not h) fun σ H Q ⟨ρ, F, er, z⟩ =>
  ⟨ρ, F, er, (gh ρ).mono (fun r q => q) (fun _ q => q) z⟩
/-- a value that is a bool, as a test -/
theorem vh_val (ha : PE X a (tHE c W gh)) (he : ∀ whole, isTrue a X.env whole = (do let v ← whole; standAt a.pos; holding [v] (truthy v)) := by intro _; rfl) : PT X a (tH c W gh) :=
  imp_PT (pt_truth ha he) fun σ H Q ⟨ρ, F, er, z⟩ => ⟨ρ, F, er, (gh ρ).mono (fun r q F1 H1 st => ⟨fun e => ⟨_, rfl, (q F1 H1 st).1 e⟩, fun k e H' t => ⟨_, rfl, (q F1 H1 st).2 k e H' t⟩⟩) (fun _ q => q) z⟩
/-- a and .., as a value -/
theorem ve_hand1 {op} (h : PE X a (tHE c W gh)) : PE X (.BoolOp op [a] pos) (tHE c W gh) := pe_one h
theorem ve_hand {ga : GE} (ha : PE X a (tE c W ga)) (hb : PE X (.BoolOp .And (b :: rest) pos) (tHE c W gh)) : PE X (.BoolOp .And (a :: b :: rest) pos) (tHE c W (hAndE ga gh)) :=
  imp_PE (pe_and ha hb) fun σ H Q ⟨ρ, F, er, z⟩ => tE_bind er z fun v ρ1 w F1 H1 st rep h1 => by
    cases v with
    | bl k =>
      cases rep
      refine ⟨k, rfl, ?_⟩
      cases k with
      | true =>
        have h2 : (gh ρ1).run (OkH c σ ρ F H fun b H' => Q (.bl b) H') (ErE c W σ ρ1 F1 H1) := h1
        exact ⟨ρ1, F1, st.2, (gh ρ1).mono (fun r q => OkH.step st q) (fun _ q => q) h2⟩
      | false => exact (h1 F1 H1 st).1 rfl
    | _ => exact h1.elim
theorem ve_hE {ga : GE} (ha : PE X a (tE c W ga)) : PE X a (tHE c W (hT (gBl ga))) := imp_PE ha fun σ H Q ⟨ρ, F, er, z⟩ => tE_bind er z fun v ρ1 w F1 H1 st rep h1 => by
  cases v with
  | bl k => cases rep; exact (h1 F1 H1 st).1 rfl
  | _ => exact h1.elim
theorem ve_hif {t : Expr} {ga : GE} (ht : PT X t (tT c W gt)) (ha : PE X a (tE c W ga)) (hb : PE X b (tHE c W gh)) : PE X (.IfExp t a b pos) (tHE c W (hIf gt (gBl ga) gh)) :=
  imp_PE (pe_ifExp ht (ve_hE ha) hb) fun σ H Q ⟨ρ, F, er, z⟩ => tT_bind er z fun v ρ1 F1 H1 st h1 => by
    cases v with
    | true => exact ⟨ρ1, F1, st.2, (hT (gBl ga) ρ1).mono (fun r q => OkH.step st q) (fun _ q => q) h1⟩
    | false => exact ⟨ρ1, F1, st.2, (gh ρ1).mono (fun r q => OkH.step st q) (fun _ q => q) h1⟩

/-! ### .. in statements -/
mutual
/-- no list, no dict below -/
def flat : PV → Bool
  | .non => true | .bl _ => true | .int _ => true | .str _ => true | .any => true
  | .tup xs => flats xs
  | _ => false
def flats : List PV → Bool
  | [] => true
  | x :: xs => flat x && flats xs
end
mutual
theorem flat_rep {c : Cn} {F : Hp} {q : Addr} {ob : HO} (hq : ∀ vs, F q ≠ some (.tup vs)) : ∀ {v : V} {x : PV}, Rep c F v x → flat x = true → Rep c (upd F q ob) v x
  | _, _, .non, _ => .non
  | _, _, .bl b, _ => .bl b
  | _, _, .int i, _ => .int i
  | _, _, .str x, _ => .str x
  | _, _, .tup h r, e => .tup (by rw [upd_ne (fun z => by subst z; exact hq _ h)]; exact h) (flats_rep hq r (by unfold flat at e; exact e))
  | _, _, .any v, _ => .any v
  | _, _, .lst h r t, e => by unfold flat at e; cases e
  | _, _, .dic h r t, e => by unfold flat at e; cases e
  | _, _, .ins h r, e => by unfold flat at e; cases e
  | _, _, .scr h, e => by unfold flat at e; cases e
theorem flats_rep {c : Cn} {F : Hp} {q : Addr} {ob : HO} (hq : ∀ vs, F q ≠ some (.tup vs)) : ∀ {vs : List V} {xs : List PV}, Reps c F vs xs → flats xs = true → Reps c (upd F q ob) vs xs
  | _, _, .nil, _ => .nil
  | _, _, .cons h r, e => by
    unfold flats at e
    rw [Bool.and_eq_true] at e
    exact .cons (flat_rep hq h e.1) (flats_rep hq r e.2)
end
/-- what a value is made of: a scalar of a kind, or a node -/
def kindS : PV → Option Nat
  | .non => some 0 | .bl _ => some 1 | .int _ => some 2 | .str _ => some 3 | .any => none
  | _ => some 4
def apartK : Option Nat → Option Nat → Bool
  | some a, some b => !decide (a = b)
  | _, _ => false
/-- these items cannot be those -/
def apart : List PV → List PV → Bool
  | [], [] => false
  | y :: ys, x :: xs => apartK (kindS y) (kindS x) || apart ys xs
  | _, _ => true
theorem kindS_eq {c : Cn} {F : Hp} {v : V} {x y : PV} (a : Rep c F v x) (b : Rep c F v y) (h : apartK (kindS x) (kindS y) = true) : False := by
  cases a <;> cases b <;> first | (simp [kindS, apartK] at h; done) | cases h
theorem apart_no {c : Cn} {F : Hp} : ∀ {vs : List V} {ys xs : List PV}, apart ys xs = true → Reps c F vs ys → Reps c F vs xs → False
  | _, _, _, h, .nil, .nil => by cases h
  | _, _, _, h, .cons a r, .cons b t => by
    unfold apart at h
    rw [Bool.or_eq_true] at h
    rcases h with h | h
    · exact kindS_eq a b h
    · exact apart_no h r t
mutual
/-- no node below that could be the list of the items ws -/
def flatQ (ws : List PV) : PV → Bool
  | .non => true | .bl _ => true | .int _ => true | .str _ => true | .any => true
  | .tup xs => flatsQ ws xs
  | .lst _ xs => apart xs ws && flatsQ ws xs
  | _ => false
def flatsQ (ws : List PV) : List PV → Bool
  | [] => true
  | x :: xs => flatQ ws x && flatsQ ws xs
end
mutual
theorem flatQ_rep {c : Cn} {F : Hp} {q : Addr} {ob : HO} {us : List V} {ws : List PV} (hq : F q = some (.lst us)) (hw : Reps c F us ws) : ∀ {v : V} {x : PV}, Rep c F v x → flatQ ws x = true → Rep c (upd F q ob) v x
  | _, _, .non, _ => .non
  | _, _, .bl b, _ => .bl b
  | _, _, .int i, _ => .int i
  | _, _, .str x, _ => .str x
  | _, _, .tup h r, e => .tup (by rw [upd_ne (fun z => by subst z; rw [hq] at h; cases h)]; exact h) (flatsQ_rep hq hw r (by unfold flatQ at e; exact e))
  | _, _, .any v, _ => .any v
  | _, _, .lst (a := a) h r t, e => by
    unfold flatQ at e
    rw [Bool.and_eq_true] at e
    refine .lst ?_ (flatsQ_rep hq hw r e.2) t
    rw [upd_ne (fun z => by subst z; rw [hq] at h; cases h; exact apart_no e.1 r hw)]
    exact h
  | _, _, .dic h r t, e => by unfold flatQ at e; cases e
  | _, _, .ins h r, e => by unfold flatQ at e; cases e
  | _, _, .scr h, e => by unfold flatQ at e; cases e
theorem flatsQ_rep {c : Cn} {F : Hp} {q : Addr} {ob : HO} {us : List V} {ws : List PV} (hq : F q = some (.lst us)) (hw : Reps c F us ws) : ∀ {vs : List V} {xs : List PV}, Reps c F vs xs → flatsQ ws xs = true → Reps c (upd F q ob) vs xs
  | _, _, .nil, _ => .nil
  | _, _, .cons h r, e => by
    unfold flatsQ at e
    rw [Bool.and_eq_true] at e
    exact .cons (flatQ_rep hq hw h e.1) (flatsQ_rep hq hw r e.2)
end
/-- a slot behind the change of the node q -/
def thawS (q : Addr) : SV → SV
  | .bx n => .bx n
  | .fz (.lst (some a) xs) => if a = q ∧ flatsQ xs xs = true then .fz (.lst none (xs ++ [.int 7])) else .un
  | .fz (.dic (some a) []) => if a = q then .fz (.dic none [(.inr "more", .int 7)]) else .un
  | .fz v => if flat v = true then .fz v else .un
  | _ => .un
theorem thawS_own {q : Addr} {t : SV} (h : (thawS q t).own = true) : t.own = true := by
  cases t with
  | bx n => rfl
  | un => cases h
  | ow xs => cases h
  | fz v =>
    unfold thawS at h
    split at h
    · rename_i z; cases z
    · split at h <;> cases h
    · split at h <;> cases h
    · split at h <;> cases h
    · cases h
def sIfH (t : GH) (g : GS) : GS := fun ρ => (t ρ).bind fun b => match b.2.1 with
  | some q => if b.1 = true then .stuck else .ret (.th none (b.2.2.map (thawS q)))
  | none => if b.1 = true then g b.2.2 else .ret (.nx b.2.2)
def sRetH (t : GH) : GS := fun ρ => (t ρ).bind fun b => match b.2.1 with
  | some q => .ret (.th (some b.1) (b.2.2.map (thawS q)))
  | none => .ret (.rt (.bl b.1) b.2.2)
theorem ThwE.th {H' : Hp} {q : Addr} (t : ThwE c σ ρ F H q H') (p : Addr) (o : HO) (h : H p = some o) : ∃ o', H' p = some o' := by
  by_cases e : p = q
  · subst e
    rcases t.ch with ⟨_, _, z⟩ | ⟨_, z⟩ <;> exact ⟨_, z⟩
  · exact ⟨o, t.hh p o e h⟩
theorem thw_of {H' : Hp} {q : Addr} (er : ER c F H σ ρ) (t : ThwE c σ ρ F H q H') : Thw c pn σ ρ H σ (ρ.map (thawS q)) H' where
  hh := fun p o h n b => t.hh p o (fun e => t.nB (by rw [← e]; exact b)) h
  th := t.th
  ow := fun p h => .inl (own_map (fun _ => thawS_own) h)
  er := by
    obtain ⟨ob, hob, hq⟩ : ∃ ob, H' q = some ob ∧ ∀ vs, F q ≠ some (.tup vs) := by
      rcases t.ch with ⟨vs, h1, h2⟩ | ⟨h1, h2⟩
      · exact ⟨_, h2, fun us z => by rw [h1] at z; cases z⟩
      · exact ⟨_, h2, fun us z => by rw [h1] at z; cases z⟩
    have hfl : ∀ {w v}, flat v = true → Rep c F w v → SlotR c (upd F q ob) H' (some w) (.fz v) := fun {w v} e r => ⟨w, rfl, flat_rep hq r e⟩
    refine ⟨upd F q ob, er.map (fun p o h => ?_) (fun i o s h1 h2 h => ?_) (fun _ => thawS_own) fun p b => (er.mrk p b).elim fun o h => t.th p o h⟩
    · by_cases e : p = q
      · subst e; rw [upd_same] at h; cases h; exact hob
      · rw [upd_ne e] at h; exact t.hh p o e (er.sub p o h)
    · cases s with
      | un => trivial
      | ow xs => trivial
      | bx n =>
        obtain ⟨p, vs, e, f, hp, r⟩ := h
        subst e
        have ne : p ≠ q := fun z => t.nO (by subst z; exact ⟨i, _, h1, h2, rfl⟩)
        exact ⟨p, vs, rfl, by rw [upd_ne ne]; exact f, t.hh p _ ne hp, r⟩
      | fz v =>
        obtain ⟨w, rfl, r⟩ := h
        unfold thawS
        split
        · rename_i z; cases z
        · rename_i a xs z
          cases z
          split
          · rename_i hc
            obtain ⟨rfl, hf⟩ := hc
            cases r with
            | lst g r tg =>
              obtain ⟨rfl, _⟩ := tg a rfl
              rcases t.ch with ⟨vs, k1, k2⟩ | ⟨k1, k2⟩
              · rw [g] at k1
                cases k1
                rw [k2] at hob
                cases hob
                exact ⟨_, rfl, .lst upd_same (Reps.append (flatsQ_rep g r r hf) (.cons (.int 7) .nil)) (fun _ z => nomatch z)⟩
              · rw [g] at k1; cases k1
          · trivial
        · rename_i a z
          cases z
          split
          · rename_i hc
            subst hc
            cases r with
            | dic g r tg =>
              obtain ⟨rfl, _⟩ := tg a rfl
              rcases t.ch with ⟨vs, k1, k2⟩ | ⟨k1, k2⟩
              · rw [g] at k1; cases k1
              · rw [k2] at hob
                cases hob
                exact ⟨_, rfl, .dic upd_same (.cons (.int 7) .nil) (fun _ z => nomatch z)⟩
          · trivial
        · split
          · rename_i z hc hf
            cases hc
            exact hfl hf r
          · trivial
        · trivial
  pn := fun _ _ => rfl
  len := rfl
theorem tH_bindS {k : Bool × Option Addr × Env' → Wp XE' Out} {D : Ends} {R : Bool → Hp → Prop} (er : ER c F H σ ρ) (h : ((gh ρ).bind k).run (OkS c pn σ ρ F H D) (ErS c pn W σ ρ F H))
    (hk : ∀ r F1 H1, StpE c σ ρ F H r.2.2 F1 H1 → (k r).run (OkS c pn σ r.2.2 F1 H1 D) (ErS c pn W σ r.2.2 F1 H1) → (r.2.1 = none → R r.1 H1) ∧ (∀ q, r.2.1 = some q → ∀ H', ThwE c σ r.2.2 F1 H1 q H' → R r.1 H')) : tH c W gh σ H R :=
  ⟨ρ, F, er, (gh ρ).mono (fun r h1 F1 H1 st => hk r F1 H1 st (run_stepS st.s h1)) (fun _ z => z.e) h⟩
theorem vs_ifH {p : List Stmt} (ht : PT X a (tH c W gh)) (h1 : PSs X p (tS c pn W g)) : PS X (.If a p [] pos) (tS c pn W (sIfH gh g)) :=
  imp_PS (ps_if ht h1 pss_nil) fun D σ H ⟨ρ, F, er, z⟩ => tH_bindS er z fun r F1 H1 st q => by
    obtain ⟨b, t, ρ1⟩ := r
    cases t with
    | some k => cases b with
      | true => exact q.elim
      | false => exact ⟨(fun z => nomatch z), fun k' e H' t => by
          cases e
          exact ((show OkS c pn σ ρ1 F1 H1 D (.th none (ρ1.map (thawS k))) from q) σ H' (thw_of st.2 t)).1 rfl⟩
    | none => cases b with
      | true => exact ⟨fun _ => ⟨ρ1, F1, st.2, q⟩, (fun _ z => nomatch z)⟩
      | false => exact ⟨fun _ => (show OkS c pn σ ρ1 F1 H1 D (.nx ρ1) from q) σ F1 H1 (StpS.refl st.2), fun _ z => nomatch z⟩
theorem vs_retH (he : PE X a (tHE c W gh)) : PS X (.Return (some a) pos) (tS c pn W (sRetH gh)) :=
  imp_PS (ps_ret he) fun D σ H ⟨ρ, F, er, z⟩ => (tH_bindS er z fun r F1 H1 st q => by
    obtain ⟨b, t, ρ1⟩ := r
    cases t with
    | some k => exact ⟨(fun z => nomatch z), fun k' e H' t => by
        cases e
        exact ((show OkS c pn σ ρ1 F1 H1 D (.th (some b) (ρ1.map (thawS k))) from q) σ H' (thw_of st.2 t)).2 b rfl⟩
    | none => exact ⟨fun _ => (show OkS c pn σ ρ1 F1 H1 D (.rt (.bl b) ρ1) from q) (.bl b) σ F1 H1 (StpS.refl st.2) (.bl b), fun _ z => nomatch z⟩)
end
/-! ### defs that end so -/
@[simp] theorem noE_ret {ε ε' α : Type} (a : α) : (noE (.ret a : Wp ε α) : Wp ε' α) = .ret a := (rfl)
@[simp] theorem noE_bind {ε ε' α β : Type} (m : Wp ε α) (f : α → Wp ε β) : (noE (m.bind f) : Wp ε' β) = (noE m).bind fun a => noE (f a) := (rfl)
@[simp] theorem noE_stuck {ε ε' α : Type} : (noE (.stuck : Wp ε α) : Wp ε' α) = .stuck := (rfl)
theorem er_own' {s : SV} : s.er.own = s.own := SV.er_own s
def fnT (n : Nat) (pn : Nat → Bool) (g : GS) : GF := fun ss => if pinned pn ss = true then (noE (g (ss.map SV.er ++ List.replicate (n - ss.length) .un))).bind fun o => match o with
  | .nx ρ => .ret (.non, (outs ss ρ).map SV.er)
  | .rt v ρ => .ret (v.er, (outs ss ρ).map SV.er)
  | .th (some b) ρ => .ret (.bl b, (outs ss (ρ.map SV.bxo)).map SV.er)
  | _ => .stuck
  else .stuck
section
variable {c : Cn} {pn : Nat → Bool} {F H F' H' : Hp}
theorem at_at {B B' : Addr → Prop} : (c.at B).at B' = c.at B' := rfl
theorem at_self : c.at c.B = c := rfl
theorem outs_er : ∀ (ss : List SV) (ρ : Env'), outs (ss.map SV.er) ρ = outs ss ρ
  | [], _ => rfl
  | s :: ss, ρ => by simp only [List.map_cons, outs, SV.er_own, outs_er ss]
theorem pinned_er {ss : List SV} (h : pinned pn ss = true) : pinned pn (ss.map SV.er) = true := by
  unfold pinned at h ⊢
  rw [List.length_map]
  refine List.all_eq_true.mpr fun i hi => ?_
  have q := List.all_eq_true.mp h i hi
  rw [List.getElem?_map]
  cases e : ss[i]? with
  | none => rfl
  | some s => rw [e] at q; simpa [SV.er_own] using q
theorem StpE.at {B B' : Addr → Prop} {σ : St} {ρ ρ' : Env'} (mk : ∀ p, B' p → ∃ o, H p = some o) (s : StpE (c.at B) σ (ρ.map SV.er) F H ρ' F' H') : StpE (c.at B') σ ρ F H (ρ'.map SV.er) F' H' :=
  ⟨⟨s.1.ff, fun p o h n => s.1.hh p o h fun z => n (own_er z), s.1.th, fun p h => (s.1.ow p (own_er h)).imp own_er id⟩, by have q := s.2.er (B := B') fun p b => (mk p b).elim fun o h => s.1.th p o h; exact q⟩
theorem fnT_ok {P : Program} {w : World} {K : PySem.W.Frag} {mg : Str → Option Value} {base : Heap} {x qual : Str} {st : Stmt} {f : Addr} {fd : FuncData} {N ps : List Str} {k n : Nat} {g : GS} (hk : c.K = K) (Fn : Fun K x qual st f fd) (S : FnScope N ps (defScope st)) (hn : ps.length = n) (hl : ps.length ≤ N.length)
    (hbody : ∀ (B : Addr → Prop) (cdv : Value) (A : Around) (outer : List Env) (s : Shared) (H : Hp) (E : XK), Room k (A.deeper (envOfC qual (defScope st) s.heap.objs.size f cdv)) →
      PSs (cxOf (L2.CX P w) P w K mg base N qual (defScope st) f cdv A outer s H E) (defBody st) (tS (c.at B) pn (fun cls d _ H' => E cls d H') g)) : FnOk P w K mg base (L2.CX P w) (k + 1) f fd ps (SpV c n (fnT N.length pn g)) := by
  refine Fn.okX S (fun vs H Q E h => h.1.trans hn.symm) (fun cdv A outer s H vs Q E hr h => ⟨_, hbody (fun a => H a ≠ none) cdv A outer s H E hr, ?_⟩)
  obtain ⟨hv, F, ss, er, z⟩ := h
  have hvl : vs.length ≤ N.length := by omega
  unfold fnT at z
  by_cases hp : pinned pn ss = true
  · rw [if_pos hp] at z
    have er' : ER (c.at fun a => H a ≠ none) F H (vs.map some) (ss.map SV.er) := er.er fun p b => by
      cases e : H p with
      | none => exact absurd e b
      | some o => exact ⟨o, rfl⟩
    have hp' := pinned_er hp
    obtain ⟨er0, ow0⟩ := er_enter er' hvl
    rw [List.length_map] at er0 ow0
    have leave : ∀ {σ' ρ' F' H'}, StpS (c.at fun a => H a ≠ none) pn (L2.start N vs) (ss.map SV.er ++ List.replicate (N.length - ss.length) .un) F H σ' ρ' F' H' → StpE c (vs.map some) ss F H ((outs ss ρ').map SV.er) F' H' := fun {σ' ρ' F' H'} s => by
      have q := er_leave er' hvl hp' (by rw [List.length_map]; exact s)
      rw [outs_er] at q
      exact q.at (B' := c.B) er.mrk
    refine ⟨_, F, er0, (g _).mono (fun o q => ?_) (fun e q => q.elim) z⟩
    cases o with
    | nx ρ' => exact fun σ' F' H' s' => q .non F' H' (leave s') .non
    | rt v ρ' => exact fun w σ' F' H' s' rp => q w F' H' (leave s') (rp.er (B := c.B))
    | bk ρ' => exact q.elim
    | ct ρ' => exact q.elim
    | th o ρ' => cases o with
      | none => exact q.elim
      | some b =>
        refine fun σ' H' t => ⟨(fun z => nomatch z), fun b' e => ?_⟩
        cases e
        have nO : ∀ p o, F p = some o → ¬ Own (vs.map some) ss p := fun p o h z => by
          rw [(Own.tracked er z).1] at h
          cases h
        have nO' : ∀ p, ¬ Own (vs.map some) ss p → ¬ Own (L2.start N vs) (ss.map SV.er ++ List.replicate (N.length - ss.length) .un) p := fun p n z => n (own_er ((ow0 p).mp z))
        have stp : StpS (c.at fun a => H a ≠ none) pn (L2.start N vs) (ss.map SV.er ++ List.replicate (N.length - ss.length) .un) F H σ' (ρ'.map SV.bxo) F H' := by
          have hb : ∀ p o, H p = some o → ¬ Own (L2.start N vs) (ss.map SV.er ++ List.replicate (N.length - ss.length) .un) p → H' p = some o := fun p o h n => t.hh p o h n (by intro z; rw [z] at h; cases h)
          have sub : Same F H' := fun p o h => hb p o (er.sub p o h) (nO' p (nO p o h))
          obtain ⟨F9, er9⟩ := t.er
          refine ⟨⟨Same.refl F, fun p o h n => ⟨hb p o h n, fun z => z⟩, t.th, fun p h => t.ow p (own_map (fun _ => bxo_own) h)⟩, ⟨sub, by rw [List.length_map]; exact er9.len, fun i o s h1 h2 => ?_, fun i j u v p h1 h2 h3 h4 h5 h6 => ?_, er9.mrk⟩, t.pn, t.len⟩
          · rw [List.getElem?_map] at h2
            obtain ⟨y, e1, rfl⟩ := Option.map_eq_some_iff.mp h2
            cases y with
            | bx n =>
              obtain ⟨p, us, e, _, hq, r⟩ := er9.slot i o _ h1 e1
              subst e
              refine ⟨p, us, rfl, ?_, hq, r⟩
              rcases t.ow p ⟨i, _, h1, e1, rfl⟩ with z | z
              · exact (Own.tracked er (own_er ((ow0 p).mp z))).1
              · exact er.sub.free z
            | _ => trivial
          · rw [List.getElem?_map] at h3 h4
            obtain ⟨y, e1, rfl⟩ := Option.map_eq_some_iff.mp h3
            obtain ⟨y', e2, rfl⟩ := Option.map_eq_some_iff.mp h4
            exact er9.dis i j y y' p h1 h2 e1 e2 (bxo_own h5) (bxo_own h6)
        exact q (.bl b) F H' (leave stp) (.bl b)
  · rw [if_neg hp] at z
    exact z.elim
end
end VL

set_option Elab.async false
set_option linter.all false
set_option maxRecDepth 100000
set_option maxHeartbeats 1000000
/-! VL, part 13: a list or dict handed over and changed; recursion; new lists of defs; the box. -/
namespace VL
open PySem PySem.Spec PyProof.Rows L2

/-! ### a def of which nothing is asked -/
section
variable {c : Cn} {P : Program} {w : World} {K : PySem.W.Frag} {mg : Str → Option Value} {base : Heap} {x qual : Str} {st : Stmt} {f : Addr} {fd : FuncData} {N ps : List Str} {k n : Nat}
def fNo : GF := fun _ => .stuck
theorem pss_no {X : Cx} {p : List Stmt} : PSs X p (fun _ _ _ => False) := ⟨fun _ _ _ _ _ _ h => h.elim⟩
theorem fn_no (Fn : Fun K x qual st f fd) (S : FnScope N ps (defScope st)) (hn : ps.length = n) : FnOk P w K mg base (L2.CX P w) (k + 1) f fd ps (SpV c n fNo) :=
  Fn.okX S (fun vs H Q E h => h.1.trans hn.symm) fun cdv A outer s H vs Q E hr h => by
    obtain ⟨_, F, ss, er, z⟩ := h
    exact z.elim
end

/-! ### d.get(k) -/
def eDGet (g h : GE) : GE := fun ρ => (g ρ).bind fun a => match a.1 with
  | .dic _ kvs => (h a.2).bind fun b => match keyP b.1 with
    | some k => .ret ((valP kvs k).getD .non, b.2)
    | none => .stuck
  | _ => .stuck
section
variable {c : Cn} {X : Cx} {W : WX} {pn : Nat → Bool} {a b o e : Expr} {ga gb : GE} {pos p apos : Pos}
theorem RepD.valP {F : Hp} {k : Key} : ∀ {vs : List (Key × V)} {xs : List (Key × PV)}, RepD c F vs xs → Rep c F ((valV vs k).getD .non) ((valP xs k).getD .non)
  | _, _, .nil => .non
  | _, _, @RepD.cons _ _ k' v x vs xs h r => by
    by_cases e : k' = k
    · rw [valV_pos (show (k', v).1 = k from e)]
      have q : VL.valP ((k', x) :: xs) k = some x := by simp [VL.valP, List.find?_cons, e]
      rw [q]
      exact h
    · rw [valV_neg (show ¬ (k', v).1 = k from e)]
      have q : VL.valP ((k', x) :: xs) k = VL.valP xs k := by simp [VL.valP, List.find?_cons, e]
      rw [q]
      exact RepD.valP r
theorem ve_dget1 (hu : X.A.units + 1 < cLine) (ho : PE X o (tE c W ga)) (he : PE X e (tE c W gb)) (m : M1 X o "get" apos e pos) : PE X (.Call (.Attribute o "get" apos) [e] [] pos) (tE c W (eDGet ga gb)) :=
  imp_PE (pe_dget1 hu ho he m) fun σ H Q ⟨ρ, F, er, z⟩ => tE_bind er z fun v ρ1 w F1 H1 st rep h1 => by
    cases rep with
    | dic h r t =>
      refine ⟨_, rfl, .inl ⟨_, .inl (st.2.sub _ _ h)⟩, tE_bind st.2 h1 fun u ρ2 y F2 H2 st2 rep2 h2 => ?_⟩
      dsimp only at h2
      split at h2
      · rename_i k hk
        have ey := keyP_ok rep2 hk
        subst ey
        exact ⟨_, .k (st2.2.sub _ _ (st2.1.ff _ _ h)), h2 _ F2 H2 (st.trans st2) (RepD.valP (r.mono st2.1.ff))⟩
      · exact h2.elim
    | _ => exact h1.elim

/-! ### what is handed over is changed -/
def tAppX (i : Nat) : TS := fun D σ H => ∃ p vs, σ[i]? = some (some (.ref p)) ∧ H p = some (.lst vs) ∧ vs.length < sizeLine ∧ D.nx σ (upd H p (.lst (vs ++ [.int 7])))
def tPutX (i : Nat) : TS := fun D σ H => ∃ p, σ[i]? = some (some (.ref p)) ∧ H p = some (.dK []) ∧ D.nx σ (upd H p (.dK [(.inr "more", .int 7)]))
theorem vx_app {i j : Nat} {kpos : Pos} (ho : PE X o (tVar i)) (hbase : attributeBase o "append" X.env (eval o X.env) = eval o X.env := by rfl)
    (hfew : ((backTo p (starEach [.Constant (.int 7) j kpos] X.env)).all (fun x => !x.1) && (backToKw p (keywordEach [] X.env)).all (fun x => x.1.isSome) && decide ([Expr.Constant (.int 7) j kpos].length + ([] : List Keyword).length + (if ([] : List Keyword).isEmpty then 0 else 1) < 30)) = true := by rfl)
    (hline : (apos.endLine == p.line) = true := by rfl) (hs : starEach [.Constant (.int 7) j kpos] X.env = (false, eval (.Constant (.int 7) j kpos) X.env) :: starEach [] X.env := by rfl) (hsw : swapsWith (.Call (.Attribute o "append" apos) [.Constant (.int 7) j kpos] [] p) none pos.line X.env = pure false := by rfl) :
    PS X (.Expr (.Call (.Attribute o "append" apos) [.Constant (.int 7) j kpos] [] p) pos) (tAppX i) :=
  imp_PS (ps_expr (pe_bm PySem.F.plainAttrs_list PySem.F.slot_list_append PySem.F.type_list_append mt_append ho (pa_cons pe_int pa_nil hs) hbase hfew hline hs) hsw) fun D σ H ⟨p, vs, h1, h2, h3, h4⟩ =>
    ⟨.ref p, h1, .inl ⟨rfl, _, SqL.of h2⟩, p, vs, .int 7, rfl, rfl, h2, h3, h4⟩
theorem vx_put {i j j2 : Nat} {kpos vpos tpos : Pos} (hu : X.A.units + 1 < cLine) (ho : PE X o (tVar i))
    (ha : ∀ v, assign (.Subscript o (.Constant (.str "more") j kpos) tpos) X.env v = (do
      let ov ← holding [v] (eval o X.env)
      let iv ← holding [v, ov] (eval (.Constant (.str "more") j kpos) X.env)
      standAt tpos
      holding [v, ov, iv] (setItem ov iv v)
      release [v, ov, iv] []) := by intro _; rfl)
    (hs : swapsWithSole [.Subscript o (.Constant (.str "more") j kpos) tpos] (.Constant (.int 7) j2 vpos) pos.line X.env = pure false := by rfl) (hw : swappedStores [.Subscript o (.Constant (.str "more") j kpos) tpos] (.Constant (.int 7) j2 vpos) X.env = pure none := by rfl)
    (h1 : (assignEach [.Subscript o (.Constant (.str "more") j kpos) tpos] X.env).map (·.2) = [assign (.Subscript o (.Constant (.str "more") j kpos) tpos) X.env] := by rfl) :
    PS X (.Assign [.Subscript o (.Constant (.str "more") j kpos) tpos] (.Constant (.int 7) j2 vpos) pos) (tPutX i) :=
  imp_PS (ps_asg pe_int (pg_sub ho pe_str (set_dict hu) ha) hs hw h1) fun D σ H ⟨p, h1, h2, h3⟩ =>
    ⟨.ref p, h1, p, _, rfl, .k (k := .inr "more") h2 (by rw [sizeLine_eq]; decide), h3⟩

/-- told and passed: the same object, changed; else told by the law's own comparison -/
def SpVery (c : Cn) (m : GF) : Sp := fun vs H Q E => vs.length = 2 ∧ ∃ w x told passed F, vs = [w, x] ∧ Same F H ∧ (∀ p, c.B p → ∃ o, H p = some o) ∧ Rep c F w told ∧ Rep c F x passed ∧ match passed with
  | .lst g xs => ∃ p ys, g = some p ∧ told = .lst (some p) ys ∧ xs.length < sizeLine ∧ ∀ H', (∀ q o, q ≠ p → H q = some o → H' q = some o) → (∃ vs, F p = some (.lst vs) ∧ H' p = some (.lst (vs ++ [.int 7]))) → Q (.bl true) H'
  | .dic g xs => ∃ p ys, g = some p ∧ told = .dic (some p) ys ∧ xs = [] ∧ ∀ H', (∀ q o, q ≠ p → H q = some o → H' q = some o) → H' p = some (.dK [(.inr "more", .int 7)]) → Q (.bl true) H'
  | _ => (∃ t, tyN passed = some t) ∧ (m [.fz told, .fz passed]).run (fun r => ∀ u F' H', Grow F H F' H' → Rep c F' u r.1 → Q u H') (fun e => ∀ d F' H', Grow F H F' H' → ExD c F' H' d e.1.fs → E (.ref (c.cA e.1.k)) d H')
def veryL (m : GF) : GE := eAnd (eOp1 (pIsi "list") (eVar 0)) (eAnd (eOp2 pEq (eOp1 pLen (eVar 0)) (eOp1 pLen (eVar 1))) (eCall m (aCons (eOp2 pIx (eVar 0) (eOp1 pNeg (eC (.int 1)))) (aCons (eC (.int 7)) aNil))))
def veryD (m : GF) : GE := eAnd (eOp1 (pIsi "dict") (eVar 0)) (eAnd (eOp2 pEq (eOp1 pLen (eVar 0)) (eOp1 pLen (eVar 1))) (eCall m (aCons (eDGet (eVar 0) (eC (.str "more"))) (aCons (eC (.int 7)) aNil))))
def veryS (m : GF) : GE := eCall m (aCons (eVar 0) (aCons (eVar 1) aNil))
structure VeryD (c : Cn) (m : GF) (X : Cx) (W : WX) (body : List Stmt) : Prop where
  ex : ∃ t1 a1 r1 p1 t2 a2 r2 p2 r3, body = [.If t1 [a1, r1] [] p1, .If t2 [a2, r2] [] p2, r3] ∧ PT X t1 (tT c W (gVal (eOp1 (pIsi "list") (eVar 1)))) ∧ PS X a1 (tAppX 1) ∧ PS X r1 (tS c noPin W (sRet (veryL m))) ∧
    PT X t2 (tT c W (gVal (eOp1 (pIsi "dict") (eVar 1)))) ∧ PS X a2 (tPutX 1) ∧ PS X r2 (tS c noPin W (sRet (veryD m))) ∧ PS X r3 (tS c noPin W (sRet (veryS m)))
theorem reps_any : ∀ (vs : List V) {F : Hp}, Reps c F vs (vs.map fun _ => PV.any)
  | [], _ => .nil
  | v :: vs, F => .cons (.any v) (reps_any vs)
/-- the only thing known is what stands at p -/
def only (p : Addr) (o : HO) : Hp := upd (fun _ => none) p o
theorem only_same {p : Addr} {o : HO} {H : Hp} (h : H p = some o) : Same (only p o) H := fun b u e => by
  by_cases hb : b = p
  · subst hb; unfold only at e; rw [upd_same] at e; rw [h]; exact e
  · unfold only at e; rw [upd_ne hb] at e; cases e
theorem er_two {F H : Hp} {w x : V} {a b : PV} (s : Same F H) (mk : ∀ p, c.B p → ∃ o, H p = some o) (ra : Rep c F w a) (rb : Rep c F x b) : ER c F H [some w, some x] [.fz a, .fz b] := Reps.er s mk (Reps.cons ra (.cons rb .nil))
theorem own_two {w x : V} {a b : PV} {p : Addr} : ¬ Own [some w, some x] [.fz a, .fz b] p := fzs_own (xs := [a, b])
theorem outs_two {a b : PV} {ρ : Env'} : outs [.fz a, .fz b] ρ = [.un, .un] := rfl
def VL0 (n : Nat) : List SV := [.fz (.lst none (List.replicate n .any ++ [.int 7])), .fz (.lst none (List.replicate n .any ++ [.int 7]))]
def VD0 : List SV := [.fz (.dic none [(.inr "more", .int 7)]), .fz (.dic none [(.inr "more", .int 7)])]
/-- the answers of the comparison at 7 -/
structure Very7 (m : GF) : Prop where
  l : ∀ n K E, n < sizeLine → K (.bl true, VL0 n) → (veryL m (VL0 n)).run K E
  d : ∀ K E, K (.bl true, VD0) → (veryD m VD0).run K E
theorem isT_run {T : String} {b : Bool} {σ : St} {F H : Hp} {told passed : PV} {Q : Bool → Hp → Prop} (er : ER c F H σ [.fz told, .fz passed]) (e : isT T passed = some b) (h : ∀ F' H', StpE c σ [.fz told, .fz passed] F H [.fz told, .fz passed] F' H' → Q b H') :
    tT c W (gVal (eOp1 (pIsi T) (eVar 1))) σ H Q := by
  refine ⟨_, F, er, ?_⟩
  have q : gVal (eOp1 (pIsi T) (eVar 1)) [.fz told, .fz passed] = .ret (b, [.fz told, .fz passed]) := by
    unfold gVal eOp1 pIsi
    simp [eVar, e, truth]
  rw [q]
  exact h
theorem very_after {m : GF} {g : GE} {w x : V} {p : Addr} {ob : HO} {T : PV} {H H' : Hp} {Q : VK} (hT : Rep c (only p ob) (.ref p) T) (hH : H' p = some ob) (grow : ∀ q o, q ≠ p → H q = some o → H' q = some o) (hw : w = .ref p) (hx : x = .ref p)
    (hg : ∀ K E, K (.bl true, [.fz T, .fz T]) → (g [.fz T, .fz T]).run K E) (mk : ∀ p, c.B p → ∃ o, H p = some o) (hQ : ∀ H', (∀ q o, q ≠ p → H q = some o → H' q = some o) → H' p = some ob → Q (.bl true) H') {nx : St → Hp → Prop} {bk ct : St → Hp → Prop} :
    tS c noPin W (sRet g) { nx := nx, rt := Q, bk := bk, ct := ct } [some w, some x] H' := by
  subst hw
  subst hx
  refine ⟨[.fz T, .fz T], only p ob, er_two (only_same hH) (fun a b => by
    by_cases e : a = p
    · subst e; exact ⟨_, hH⟩
    · obtain ⟨o, h⟩ := mk a b; exact ⟨o, grow a o e h⟩) hT hT, hg _ _ fun w' σ' F' H2 st rp => ?_⟩
  cases rp
  exact hQ H2 (fun q o n h => (st.1.hh q o (grow q o n h) own_two).1) (st.1.hh p _ hH own_two).1
theorem very_body {m : GF} {body : List Stmt} (M : Very7 m) (B : VeryD c m X W body) (w x : V) : ∃ t, PSs X body t ∧ ∀ (H : Hp) (Q : VK) (E : XK), (W = fun cls d _ H' => E cls d H') → SpVery c m [w, x] H Q E → t { nx := fun _ H' => Q .non H', rt := Q } [some w, some x] H := by
  obtain ⟨t1, a1, r1, p1, t2, a2, r2, p2, r3, rfl, d1, d2, d3, d4, d5, d6, d7⟩ := B.ex
  refine ⟨_, pss_cons (ps_if d1 (pss_cons d2 (vss_one d3)) pss_nil) (pss_cons (ps_if d4 (pss_cons d5 (vss_one d6)) pss_nil) (vss_one d7)), fun H Q E hW h => ?_⟩
  obtain ⟨_, w', x', told, passed, F, e, s, mk, rt, rp, h⟩ := h
  cases e
  have er := er_two s mk rt rp
  have other : isT "list" passed = some false → isT "dict" passed = some false → (m [.fz told, .fz passed]).run (fun r => ∀ u F' H', Grow F H F' H' → Rep c F' u r.1 → Q u H') (fun e => ∀ d F' H', Grow F H F' H' → ExD c F' H' d e.1.fs → E (.ref (c.cA e.1.k)) d H') →
      tSeq (tIfS (tT c W (gVal (eOp1 (pIsi "list") (eVar 1)))) (tSeq (tAppX 1) (tS c noPin W (sRet (veryL m)))) tNext) (tSeq (tIfS (tT c W (gVal (eOp1 (pIsi "dict") (eVar 1)))) (tSeq (tPutX 1) (tS c noPin W (sRet (veryD m)))) tNext) (tS c noPin W (sRet (veryS m)))) { nx := fun _ H' => Q .non H', rt := Q } [some w, some x] H := fun e1 e2 h => by
    refine isT_run er e1 fun F1 H1 st1 => ?_
    rw [if_neg Bool.false_ne_true]
    refine isT_run st1.2 e2 fun F2 H2 st2 => ?_
    rw [if_neg Bool.false_ne_true]
    have st := st1.trans st2
    have gr : ∀ {σ' F' H'}, StpS c noPin [some w, some x] [.fz told, .fz passed] F2 H2 σ' [.fz told, .fz passed] F' H' → Grow F H F' H' := fun {σ' F' H'} s' =>
      ⟨st.1.ff.trans s'.1.ff, fun p o q => (s'.1.hh p o (st.1.hh p o q own_two).1 own_two).1, s'.2.1.sub, fun p o q z => (s'.1.hh p o (st.1.hh p o q own_two).1 own_two).2 ((st.1.hh p o q own_two).2 z)⟩
    refine ⟨_, F2, st.2, (m [.fz told, .fz passed]).mono (fun r q w' σ' F' H' s' rp' => q w' F' H' (gr s') rp') (fun e q d σ' F' H' s' ex => ?_) h⟩
    rw [hW]
    exact q d F' H' (gr s') ex
  cases rp with
  | @lst p vs g xs hF r t =>
    obtain ⟨p', ys, rfl, rfl, hz, hQ⟩ := h
    obtain ⟨rfl, hB⟩ := t p' rfl
    have hl : vs.length = xs.length := r.length
    refine isT_run er (by rfl : isT "list" (.lst (some p') xs) = some true) fun F1 H1 st1 => ?_
    rw [if_pos rfl]
    have hp1 : H1 p' = some (.lst vs) := (st1.1.hh p' _ (s _ _ hF) own_two).1
    have hw : w = .ref p' := by
      cases rt with
      | lst h1 r1 t1 => rw [(t1 p' rfl).1]
    refine ⟨p', vs, rfl, hp1, by rw [hl]; exact hz, ?_⟩
    refine very_after (m := m) (H := H) (T := .lst none (List.replicate vs.length .any ++ [.int 7])) (.lst upd_same (Reps.append (by have := reps_any (c := c) vs (F := only p' (.lst (vs ++ [V.int 7]))); rwa [List.map_const'] at this) (.cons (.int 7) .nil)) (fun _ z => nomatch z)) upd_same (fun q o n h => ?_) hw rfl (fun K E hK => M.l vs.length K E (by omega) hK) mk fun H' g1 g2 => hQ H' g1 ⟨vs, hF, g2⟩
    rw [upd_ne n]
    exact (st1.1.hh q o h own_two).1
  | @dic p vs g xs hF r t =>
    obtain ⟨p', ys, rfl, rfl, rfl, hQ⟩ := h
    obtain ⟨rfl, hB⟩ := t p' rfl
    cases r
    refine isT_run er (by rfl : isT "list" (.dic (some p') []) = some false) fun F1 H1 st1 => ?_
    rw [if_neg Bool.false_ne_true]
    refine isT_run st1.2 (by rfl : isT "dict" (.dic (some p') []) = some true) fun F2 H2 st2 => ?_
    rw [if_pos rfl]
    have st := st1.trans st2
    have hp1 : H2 p' = some (.dK []) := (st.1.hh p' _ (s _ _ hF) own_two).1
    have hw : w = .ref p' := by
      cases rt with
      | dic h1 r1 t1 => rw [(t1 p' rfl).1]
    refine ⟨p', rfl, hp1, ?_⟩
    refine very_after (m := m) (H := H) (T := .dic none [(.inr "more", .int 7)]) (.dic upd_same (.cons (.int 7) .nil) (fun _ z => nomatch z)) upd_same (fun q o n h => ?_) hw rfl M.d mk hQ
    rw [upd_ne n]
    exact (st.1.hh q o h own_two).1
  | any v => obtain ⟨⟨t, e⟩, _⟩ := h; cases e
  | ins h1 r1 => obtain ⟨⟨t, e⟩, _⟩ := h; cases e
  | scr h1 => obtain ⟨⟨t, e⟩, _⟩ := h; cases e
  | _ => exact other rfl rfl h.2
theorem very_ok {P : Program} {w : World} {K : PySem.W.Frag} {mg : Str → Option Value} {base : Heap} {x qual : Str} {st : Stmt} {f : Addr} {fd : FuncData} {k : Nat} {m : GF} (M : Very7 m) (Fn : Fun K x qual st f fd) (S : FnScope ["told", "passed"] ["told", "passed"] (defScope st))
    (hbody : ∀ (cdv : Value) (A : Around) (outer : List Env) (s : Shared) (H : Hp) (E : XK), Room k (A.deeper (envOfC qual (defScope st) s.heap.objs.size f cdv)) →
      VeryD c m (cxOf (L2.CX P w) P w K mg base ["told", "passed"] qual (defScope st) f cdv A outer s H E) (fun cls d _ H' => E cls d H') (defBody st)) : FnOk P w K mg base (L2.CX P w) (k + 1) f fd ["told", "passed"] (SpVery c m) :=
  Fn.okX S (fun vs H Q E h => h.1) fun cdv A outer s H vs Q E hr h => by
    obtain ⟨hl, w, x, told, passed, F, rfl, h'⟩ := h
    obtain ⟨t, d, q⟩ := very_body M (hbody cdv A outer s H E hr) w x
    exact ⟨t, d, q H Q E rfl ⟨hl, w, x, told, passed, F, rfl, h'⟩⟩
structure FvVery (P : Program) (w : World) (K : PySem.W.Frag) (mg : Str → Option Value) (base : Heap) (c : Cn) (k : Nat) (x : Str) (m : GF) : Prop where
  ex : ∃ (f : Addr) (fd : FuncData) (ps : List Str), mg x = some (.ref f) ∧ FnOk P w K mg base (L2.CX P w) k f fd ps (SpVery c m) ∧ PySem.W.keepIn K (.ref f) = true ∧ Binds K fd ps []
def hVery (m : GF) (ga gb : GE) : GH := fun ρ => (ga ρ).bind fun a => (gb a.2).bind fun b => match b.1 with
  | .lst (some p) xs => match a.1 with
    | .lst (some q) _ => if p = q ∧ xs.length < sizeLine then .ret (true, some p, b.2) else .stuck
    | _ => .stuck
  | .dic (some p) [] => match a.1 with
    | .dic (some q) _ => if p = q then .ret (true, some p, b.2) else .stuck
    | _ => .stuck
  | .lst none _ => .stuck
  | .dic _ _ => .stuck
  | v => if (tyN v).isSome = true then ((m [.fz a.1, .fz v]).mapE fun e => (e.1, b.2)).bind fun r => match r.1 with
    | .bl k => .ret (k, none, b.2)
    | _ => .stuck
  else .stuck
theorem ve_very {k j : Nat} {m : GF} {x : Str} (F : FvVery X.prog X.w X.K X.mg X.base c k x m) (hr : Room j X.A) (hj : k ≤ j) (hg : Gl X x) (tk : Takes X W) (ha : PE X a (tE c W ga)) (hb : PE X b (tE c W gb))
    (hdb : (x == ("__debug__" : Str)) = false := by decide) (he : starEach [a, b] X.env = (false, eval a X.env) :: starEach [b] X.env := by rfl) (he2 : starEach [b] X.env = (false, eval b X.env) :: starEach [] X.env := by rfl)
    (hpl : (backTo pos (starEach [b] X.env)).any (·.1) = false := by rfl) : PE X (.Call (.Name x p) [a, b] [] pos) (tHE c W (hVery m ga gb)) := by
  obtain ⟨f, fd, ps, hm, G, kp, hbi⟩ := F.ex
  refine imp_PE (pe_callS G (hr.mono hj) hg hm kp hbi (fun σ => passAt tk σ) (pa_cons ha (pa_cons hb pa_nil he2) he) hdb he hpl) fun σ H Q ⟨ρ, F, er, z⟩ => ?_
  refine tE_bind er z fun v ρ1 w F1 H1 st rep h1 => tE_bind st.2 h1 fun u ρ2 y F2 H2 st2 rep2 h2 => ?_
  have st12 := st.trans st2
  have rep' := rep.mono st2.1.ff
  refine ⟨rfl, w, y, v, u, F2, rfl, st2.2.sub, st2.2.mrk, rep', rep2, ?_⟩
  have nOw : ∀ {p : Addr} {o : HO}, F2 p = some o → ¬ Own σ ρ2 p := fun {p o} hp hz => by
    rw [(Own.tracked st2.2 hz).1] at hp
    cases hp
  have oth : (tyN u).isSome = true → (((m [.fz v, .fz u]).mapE fun e => (e.1, ρ2)).bind fun r => match r.1 with | .bl k => (.ret (k, none, ρ2) : Wp XE' (Bool × Option Addr × Env')) | _ => .stuck).run (OkH c σ ρ F H fun b H' => Q (.bl b) H') (ErE c W σ ρ2 F2 H2) → (∃ t, tyN u = some t) ∧
      (m [.fz v, .fz u]).run (fun r => ∀ w F' H', Grow F2 H2 F' H' → Rep c F' w r.1 → Q w H') (fun e => ∀ d F' H', Grow F2 H2 F' H' → ExD c F' H' d e.1.fs → WE W σ (.ref (c.cA e.1.k)) d H') := fun e h => by
    refine ⟨Option.isSome_iff_exists.mp e, (m [.fz v, .fz u]).mono (fun r q w' F' H' gr rp => ?_) (fun e q d F' H' gr ex => q d F' H' (gr.stpE st2.2) ex) h⟩
    obtain ⟨r, ss⟩ := r
    cases r with
    | bl k => cases rp; exact (q F' H' (st12.trans (gr.stpE st2.2))).1 rfl
    | _ => exact q.elim
  dsimp only at h2
  cases rep2 with
  | @lst p vs g xs hF r t =>
    cases g with
    | none => exact h2.elim
    | some p' =>
      dsimp only at h2
      split at h2
      · rename_i q ys
        split at h2
        · rename_i hq
          obtain ⟨rfl, hz⟩ := hq
          obtain ⟨rfl, hB⟩ := t p' rfl
          exact ⟨p', _, rfl, rfl, hz, fun H' h3 h4 => (h2 F2 H2 st12).2 _ rfl H' ⟨hB, nOw hF, h3, .inl h4⟩⟩
        · exact h2.elim
      · exact h2.elim
  | @dic p vs g xs hF r t =>
    cases g with
    | none => exact h2.elim
    | some p' => cases xs with
      | cons _ _ => exact h2.elim
      | nil =>
        dsimp only at h2
        split at h2
        · rename_i q ys
          split at h2
          · rename_i hq
            subst hq
            obtain ⟨rfl, hB⟩ := t p' rfl
            exact ⟨p', _, rfl, rfl, rfl, fun H' h3 h4 => (h2 F2 H2 st12).2 _ rfl H' ⟨hB, nOw hF, h3, .inr ⟨(by cases r; exact hF), h4⟩⟩⟩
          · exact h2.elim
        · exact h2.elim
  | any y => exact h2.elim
  | ins h1 r1 => exact h2.elim
  | scr h1 => exact h2.elim
  | _ => exact oth rfl h2
end
end VL

set_option Elab.async false
set_option linter.all false
set_option maxRecDepth 100000
set_option maxHeartbeats 1000000
/-! VL, part 14: a new list some of whose items are new lists or dicts of one's own; a loop over it. -/
namespace VL
open PySem PySem.Spec PyProof.Rows L2

inductive RV where
  | pv (v : PV) | ml (xs : List PV) | md
section
variable (c : Cn) (σ : St) (ρ : Env') (F H : Hp)
def RReps : (Addr → Prop) → List V → List RV → Prop
  | _, [], [] => True
  | N, w :: ws, .pv v :: rs => Rep c F w v ∧ RReps N ws rs
  | N, w :: ws, .ml xs :: rs => ∃ q ys, w = .ref q ∧ N q ∧ F q = none ∧ H q = some (.lst ys) ∧ ¬ Own σ ρ q ∧ Reps c F ys xs ∧ RReps (fun a => N a ∧ a ≠ q) ws rs
  | N, w :: ws, .md :: rs => ∃ q, w = .ref q ∧ N q ∧ F q = none ∧ H q = some (.dK []) ∧ ¬ Own σ ρ q ∧ RReps (fun a => N a ∧ a ≠ q) ws rs
  | _, _, _ => False
end
section
variable {c : Cn} {σ σ' : St} {ρ ρ' : Env'} {F H F' H' : Hp}
/-- what keeps them -/
structure Keeps (σ : St) (ρ : Env') (F H : Hp) (σ' : St) (ρ' : Env') (F' H' : Hp) (N : Addr → Prop) : Prop where
  ff : Same F F'
  hh : ∀ p o, N p → H p = some o → F p = none → ¬ Own σ ρ p → H' p = some o ∧ F' p = none ∧ ¬ Own σ' ρ' p
theorem RReps.keep : ∀ {N M : Addr → Prop} {ws : List V} {rs : List RV}, Keeps σ ρ F H σ' ρ' F' H' N → (∀ a o, N a → H a = some o → M a) → RReps c σ ρ F H N ws rs → RReps c σ' ρ' F' H' M ws rs
  | _, _, [], [], _, _, _ => trivial
  | _, _, w :: ws, .pv v :: rs, k, m, ⟨a, b⟩ => ⟨a.mono k.ff, RReps.keep k m b⟩
  | N, M, w :: ws, .ml xs :: rs, k, m, ⟨q, ys, h1, h2, h3, h4, h5, h6, h7⟩ => by
    obtain ⟨a, b, d⟩ := k.hh q _ h2 h4 h3 h5
    exact ⟨q, ys, h1, m q _ h2 h4, b, a, d, h6.mono k.ff, RReps.keep (N := fun a => N a ∧ a ≠ q) ⟨k.ff, fun p o hn => k.hh p o hn.1⟩ (fun a o h e => ⟨m a o h.1 e, h.2⟩) h7⟩
  | N, M, w :: ws, .md :: rs, k, m, ⟨q, h1, h2, h3, h4, h5, h7⟩ => by
    obtain ⟨a, b, d⟩ := k.hh q _ h2 h4 h3 h5
    exact ⟨q, h1, m q _ h2 h4, b, a, d, RReps.keep (N := fun a => N a ∧ a ≠ q) ⟨k.ff, fun p o hn => k.hh p o hn.1⟩ (fun a o h e => ⟨m a o h.1 e, h.2⟩) h7⟩
  | _, _, [], .pv _ :: _, _, _, h => h.elim
  | _, _, [], .ml _ :: _, _, _, h => h.elim
  | _, _, [], .md :: _, _, _, h => h.elim
  | _, _, _ :: _, [], _, _, h => h.elim
theorem Keeps.refl {N : Addr → Prop} : Keeps σ ρ F H σ ρ F H N := ⟨Same.refl F, fun p o _ h f n => ⟨h, f, n⟩⟩
theorem RReps.weak {N M : Addr → Prop} {ws : List V} {rs : List RV} (m : ∀ a, N a → M a) (h : RReps c σ ρ F H N ws rs) : RReps c σ ρ F H M ws rs := h.keep .refl fun a _ z _ => m a z
theorem RReps.length : ∀ {N : Addr → Prop} {ws : List V} {rs : List RV}, RReps c σ ρ F H N ws rs → ws.length = rs.length
  | _, [], [], _ => rfl
  | _, w :: ws, .pv v :: rs, ⟨a, b⟩ => congrArg Nat.succ (RReps.length b)
  | _, w :: ws, .ml xs :: rs, ⟨q, ys, h1, h2, h3, h4, h5, h6, h7⟩ => congrArg Nat.succ (RReps.length h7)
  | _, w :: ws, .md :: rs, ⟨q, h1, h2, h3, h4, h5, h7⟩ => congrArg Nat.succ (RReps.length h7)
  | _, [], .pv _ :: _, h => h.elim
  | _, [], .ml _ :: _, h => h.elim
  | _, [], .md :: _, h => h.elim
  | _, _ :: _, [], h => h.elim
theorem RReps.drop : ∀ (n : Nat) {N : Addr → Prop} {ws : List V} {rs : List RV}, RReps c σ ρ F H N ws rs → RReps c σ ρ F H N (ws.drop n) (rs.drop n)
  | 0, _, _, _, h => h
  | _ + 1, _, [], [], _ => trivial
  | n + 1, _, w :: ws, .pv v :: rs, ⟨a, b⟩ => RReps.drop n b
  | n + 1, _, w :: ws, .ml xs :: rs, ⟨q, ys, h1, h2, h3, h4, h5, h6, h7⟩ => (RReps.drop n h7).weak fun _ z => z.1
  | n + 1, _, w :: ws, .md :: rs, ⟨q, h1, h2, h3, h4, h5, h7⟩ => (RReps.drop n h7).weak fun _ z => z.1
  | _ + 1, _, [], .pv _ :: _, h => h.elim
  | _ + 1, _, [], .ml _ :: _, h => h.elim
  | _ + 1, _, [], .md :: _, h => h.elim
  | _ + 1, _, _ :: _, [], h => h.elim
theorem RReps.take : ∀ (n : Nat) {N : Addr → Prop} {ws : List V} {rs : List RV}, RReps c σ ρ F H N ws rs → RReps c σ ρ F H N (ws.take n) (rs.take n)
  | 0, _, _, _, h => by simp only [List.take_zero]; trivial
  | _ + 1, _, [], [], _ => trivial
  | n + 1, _, w :: ws, .pv v :: rs, ⟨a, b⟩ => ⟨a, RReps.take n b⟩
  | n + 1, _, w :: ws, .ml xs :: rs, ⟨q, ys, h1, h2, h3, h4, h5, h6, h7⟩ => ⟨q, ys, h1, h2, h3, h4, h5, h6, RReps.take n h7⟩
  | n + 1, _, w :: ws, .md :: rs, ⟨q, h1, h2, h3, h4, h5, h7⟩ => ⟨q, h1, h2, h3, h4, h5, RReps.take n h7⟩
  | _ + 1, _, [], .pv _ :: _, h => h.elim
  | _ + 1, _, [], .ml _ :: _, h => h.elim
  | _ + 1, _, [], .md :: _, h => h.elim
  | _ + 1, _, _ :: _, [], h => h.elim
theorem RReps.cut {N : Addr → Prop} {ws : List V} {rs : List RV} (h : RReps c σ ρ F H N ws rs) (lo hi : Option Int) : RReps c σ ρ F H N (cutV ws lo hi) (cutP rs lo hi) := by
  unfold cutV cutP
  rw [h.length]
  exact (h.drop _).take _
theorem RReps.ofReps : ∀ {N : Addr → Prop} {ws vs : List V} {xs : List PV} {rs : List RV}, Reps c F ws xs → RReps c σ ρ F H N vs rs → RReps c σ ρ F H N (ws ++ vs) (xs.map .pv ++ rs)
  | _, _, _, _, _, .nil, h => h
  | _, _, _, _, _, .cons a r, h => ⟨a, RReps.ofReps r h⟩
theorem StpE.keeps {N : Addr → Prop} (s : StpE c σ ρ F H ρ' F' H') : Keeps σ ρ F H σ ρ' F' H' N :=
  ⟨s.1.ff, fun p o _ h f n => ⟨(s.1.hh p o h n).1, (s.1.hh p o h n).2 f, fun z => (s.1.ow p z).elim n fun q => by rw [h] at q; cases q⟩⟩
end

/-! ### displays with such items -/
abbrev GR := Env' → Wp XE' (List RV × Env')
def rNil : GR := fun ρ => .ret ([], ρ)
def rPv (g : GE) (h : GR) : GR := fun ρ => (g ρ).bind fun a => (h a.2).bind fun b => .ret (.pv a.1 :: b.1, b.2)
def rMl (g : GL) (h : GR) : GR := fun ρ => (g ρ).bind fun a => (h a.2).bind fun b => .ret (.ml a.1 :: b.1, b.2)
def rMd (h : GR) : GR := fun ρ => (h ρ).bind fun b => .ret (.md :: b.1, b.2)
def OkRA (c : Cn) (n : Nat) (σ : St) (ρ : Env') (F H : Hp) (Q : List V → Hp → Prop) : List RV × Env' → Prop := fun r => ∀ ws F' H', StpE c σ ρ F H r.2 F' H' → RReps c σ r.2 F' H' (fun a => H a = none) ws r.1 → ws.length = n → Q ws H'
def tRA (c : Cn) (W : WX) (n : Nat) (g : GR) : TA := fun σ H Q => ∃ ρ F, ER c F H σ ρ ∧ (g ρ).run (OkRA c n σ ρ F H Q) (ErE c W σ ρ F H)
/-- a new list of such items -/
def OkR (c : Cn) (σ : St) (ρ : Env') (F H : Hp) (Q : VK) : List RV × Env' → Prop := fun r => ∀ p ws F' H', StpE c σ ρ F H r.2 F' H' → H p = none → F' p = none → H' p = some (.lst ws) → ¬ Own σ r.2 p → RReps c σ r.2 F' H' (fun a => H a = none ∧ a ≠ p) ws r.1 → Q (.ref p) H'
def tR (c : Cn) (W : WX) (g : GR) : TE := fun σ H Q => ∃ ρ F, ER c F H σ ρ ∧ (g ρ).run (OkR c σ ρ F H Q) (ErE c W σ ρ F H)
def rDisp (g : GR) : GR := fun ρ => (g ρ).bind fun a => if a.1.length ≤ sizeLine then .ret a else .stuck
def rAdd (g : GE) (h : GR) : GR := fun ρ => (g ρ).bind fun a => match a.1 with
  | .lst _ xs => (h a.2).bind fun b => if xs.length + b.1.length ≤ sizeLine then .ret (xs.map .pv ++ b.1, b.2) else .stuck
  | _ => .stuck
def rSl (g : GR) (l : GO) : GR := fun ρ => (g ρ).bind fun a => (l a.2).bind fun i => .ret (cutP a.1 i.1 none, i.2)
section
variable {c : Cn} {X : Cx} {W : WX} {pn : Nat → Bool} {a b e : Expr} {es : List Expr} {ga gb : GE} {gl : GL} {gr : GR} {go : GO} {pos p : Pos} {n : Nat} {σ : St} {ρ ρ1 : Env'} {F H F1 H1 : Hp}
theorem tL_bind {α : Type} {g : GL} {k : List PV × Env' → Wp XE' α} {R : VK} {Z : α → Prop} (er : ER c F H σ ρ) (h : ((g ρ).bind k).run Z (ErE c W σ ρ F H))
    (hk : ∀ v ρ1 p vs F1 H1, StpE c σ ρ F H ρ1 F1 H1 → H p = none → F1 p = none → H1 p = some (.lst vs) → ¬ Own σ ρ1 p → Reps c F1 vs v → (k (v, ρ1)).run Z (ErE c W σ ρ1 F1 H1) → R (.ref p) H1) : tL c W g σ H R :=
  ⟨ρ, F, er, (g ρ).mono (fun r h1 p vs F1 H1 st a b d e f => hk r.1 r.2 p vs F1 H1 st a b d e f ((k r).mono (fun _ z => z) (fun _ => ErE.step st) h1)) (fun _ z => z) h⟩
theorem tRA_bind {α : Type} {g : GR} {k : List RV × Env' → Wp XE' α} {R : List V → Hp → Prop} {Z : α → Prop} (er : ER c F H σ ρ) (h : ((g ρ).bind k).run Z (ErE c W σ ρ F H))
    (hk : ∀ rs ρ1 ws F1 H1, StpE c σ ρ F H ρ1 F1 H1 → RReps c σ ρ1 F1 H1 (fun a => H a = none) ws rs → ws.length = n → (k (rs, ρ1)).run Z (ErE c W σ ρ1 F1 H1) → R ws H1) : tRA c W n g σ H R :=
  ⟨ρ, F, er, (g ρ).mono (fun r h1 ws F1 H1 st a b => hk r.1 r.2 ws F1 H1 st a b ((k r).mono (fun _ z => z) (fun _ => ErE.step st) h1)) (fun _ z => z) h⟩
theorem tR_bind {α : Type} {g : GR} {k : List RV × Env' → Wp XE' α} {R : VK} {Z : α → Prop} (er : ER c F H σ ρ) (h : ((g ρ).bind k).run Z (ErE c W σ ρ F H))
    (hk : ∀ rs ρ1 p ws F1 H1, StpE c σ ρ F H ρ1 F1 H1 → H p = none → F1 p = none → H1 p = some (.lst ws) → ¬ Own σ ρ1 p → RReps c σ ρ1 F1 H1 (fun a => H a = none ∧ a ≠ p) ws rs → (k (rs, ρ1)).run Z (ErE c W σ ρ1 F1 H1) → R (.ref p) H1) : tR c W g σ H R :=
  ⟨ρ, F, er, (g ρ).mono (fun r h1 p ws F1 H1 st a b d e f => hk r.1 r.2 p ws F1 H1 st a b d e f ((k r).mono (fun _ z => z) (fun _ => ErE.step st) h1)) (fun _ z => z) h⟩
theorem vr_nil : PA X [] (tRA c W 0 rNil) := imp_PA pa_nil fun σ H Q ⟨ρ, F, er, z⟩ => z [] F H (StpE.refl er) trivial rfl
theorem none_of_th (s : StpE c σ ρ F H ρ1 F1 H1) {p : Addr} (h : H1 p = none) : H p = none := by
  cases e : H p with
  | none => rfl
  | some o => obtain ⟨o', e'⟩ := s.1.th p o e; rw [h] at e'; cases e'
theorem vr_pv (ha : PE X a (tE c W ga)) (hr : PA X es (tRA c W n gr)) (hs : starEach (a :: es) X.env = (false, eval a X.env) :: starEach es X.env := by rfl) : PA X (a :: es) (tRA c W (n + 1) (rPv ga gr)) :=
  imp_PA (pa_cons ha hr hs) fun σ H Q ⟨ρ, F, er, z⟩ => tE_bind er z fun v ρ1 w F1 H1 st rep h1 =>
    tRA_bind st.2 h1 fun rs ρ2 ws F2 H2 st2 rr hl h2 => h2 (w :: ws) F2 H2 (st.trans st2) ⟨rep.mono st2.1.ff, rr.weak fun a h => none_of_th st h⟩ (by rw [List.length_cons, hl])
theorem vr_ml (ha : PE X a (tL c W gl)) (hr : PA X es (tRA c W n gr)) (hs : starEach (a :: es) X.env = (false, eval a X.env) :: starEach es X.env := by rfl) : PA X (a :: es) (tRA c W (n + 1) (rMl gl gr)) :=
  imp_PA (pa_cons ha hr hs) fun σ H Q ⟨ρ, F, er, z⟩ => tL_bind er z fun v ρ1 p vs F1 H1 st hn hF hH no rep h1 =>
    tRA_bind st.2 h1 fun rs ρ2 ws F2 H2 st2 rr hl h2 => by
      obtain ⟨a1, a2, a3⟩ := (StpE.keeps (N := fun _ => True) st2).hh p _ trivial hH hF no
      exact h2 (.ref p :: ws) F2 H2 (st.trans st2) ⟨p, vs, rfl, hn, a2, a1, a3, rep.mono st2.1.ff, rr.weak fun a h => ⟨none_of_th st h, fun e => by rw [e, hH] at h; cases h⟩⟩ (by rw [List.length_cons, hl])
theorem vr_md {dpos : Pos} (hr : PA X es (tRA c W n gr)) (hs : starEach (.Dict [] [] dpos :: es) X.env = (false, eval (.Dict [] [] dpos) X.env) :: starEach es X.env := by rfl) : PA X (.Dict [] [] dpos :: es) (tRA c W (n + 1) (rMd gr)) :=
  imp_PA (pa_cons pe_dnewK hr hs) fun σ H Q ⟨ρ, F, er, z⟩ p hp => by
    have st := (upd_growH (o := .dK []) er.sub hp).stpE er
    have no := not_own_new er hp
    refine tRA_bind (k := fun b => (.ret (.md :: b.1, b.2) : Wp XE' (List RV × Env'))) (Z := OkRA c (n + 1) σ ρ F H Q) st.2 ((rMd gr ρ).mono (fun _ z => z) (fun _ => ErE.step st) z) fun rs ρ2 ws F2 H2 st2 rr hl h2 => ?_
    obtain ⟨a1, a2, a3⟩ := (StpE.keeps (N := fun _ => True) st2).hh p _ trivial upd_same (er.sub.free hp) no
    refine h2 (.ref p :: ws) F2 H2 (st.trans st2) ⟨p, rfl, hp, a2, a1, a3, rr.weak fun a h => ?_⟩ (by rw [List.length_cons, hl])
    have h' := none_of_th st h
    exact ⟨h', fun e => by subst e; rw [upd_same] at h; cases h⟩
theorem vr_disp (h : PA X es (tRA c W n gr)) : PE X (.List es pos) (tR c W (rDisp gr)) :=
  imp_PE (pe_lst h) fun σ H Q ⟨ρ, F, er, z⟩ => tRA_bind er z fun rs ρ1 ws F1 H1 st rr hl h1 => by
    by_cases hz : rs.length ≤ sizeLine
    · dsimp only at h1
      rw [if_pos hz] at h1
      refine ⟨by rw [rr.length]; exact hz, fun p hp => ?_⟩
      have g := upd_growH (o := .lst ws) st.2.sub hp
      have s2 := g.stpE st.2
      refine h1 p ws F1 _ (st.trans s2) (none_of_th st hp) (st.2.sub.free hp) upd_same (not_own_new st.2 hp) ?_
      have rr' : RReps c σ ρ1 F1 H1 (fun a => H a = none ∧ a ≠ p) ws rs := rr.keep .refl fun a o h e => ⟨h, fun z => by rw [z, hp] at e; cases e⟩
      exact rr'.keep s2.keeps fun _ _ z _ => z
    · dsimp only at h1
      rw [if_neg hz] at h1
      exact h1.elim
theorem vr_add (ha : PE X a (tE c W ga)) (hb : PE X b (tR c W gr)) : PE X (.BinOp a .Add b pos) (tR c W (rAdd ga gr)) :=
  imp_PE (pe_op op_cat ha hb) fun σ H Q ⟨ρ, F, er, z⟩ => tE_bind er z fun v ρ1 w F1 H1 st rep h1 => by
    cases rep with
    | @lst l vs g xs hF r t =>
      refine tR_bind st.2 h1 fun rs ρ2 p ws F2 H2 st2 hn hF2 hH no rr h2 => ?_
      dsimp only at h2
      split at h2
      · rename_i hz
        have st12 := st.trans st2
        refine ⟨l, p, vs, ws, rfl, rfl, st2.2.sub _ _ (st2.1.ff _ _ hF), hH, by rw [r.length, rr.length]; exact hz, fun q hq => ?_⟩
        have g := upd_growH (o := .lst (vs ++ ws)) st2.2.sub hq
        have s3 := g.stpE st2.2
        refine h2 q (vs ++ ws) F2 _ (st12.trans s3) (none_of_th st12 hq) (st2.2.sub.free hq) upd_same (not_own_new st2.2 hq) ?_
        have rr' : RReps c σ ρ2 F2 H2 (fun a => H a = none ∧ a ≠ q) ws rs := rr.keep .refl fun a o h e => ⟨none_of_th st h.1, fun z => by rw [z, hq] at e; cases e⟩
        exact RReps.ofReps (r.mono (st2.trans s3).1.ff) (rr'.keep s3.keeps fun _ _ z _ => z)
      · exact h2.elim
    | _ => exact h1.elim
theorem vr_slice {lo : Option Expr} {p2 : Pos} (hk : c.K = X.K) (ha : PE X a (tR c W gr)) (hl : PO X lo (tO c W go)) : PE X (.Subscript a (.Slice lo none none p2) pos) (tR c W (rSl gr go)) :=
  imp_PE (pe_slice sl_list ha hl po_none) fun σ H Q ⟨ρ, F, er, z⟩ => tR_bind er z fun rs ρ1 p ws F1 H1 st hn hF hH no rr h1 => tO_bind st.2 h1 fun i ρ2 F2 H2 st2 h2 => by
    have st12 := st.trans st2
    obtain ⟨a1, a2, a3⟩ := (StpE.keeps (N := fun _ => True) st2).hh p _ trivial hH hF no
    refine ⟨p, ws, rfl, SqL.of a1, fun q hq => ?_⟩
    have g := upd_growH (o := .lst (cutV ws i none)) st2.2.sub hq
    have s3 := g.stpE st2.2
    refine h2 q _ F2 _ (st12.trans s3) (none_of_th st12 hq) (st2.2.sub.free hq) upd_same (not_own_new st2.2 hq) ?_
    have rr' : RReps c σ ρ1 F1 H1 (fun a => H a = none ∧ a ≠ q) ws rs := rr.keep .refl fun a o h e => ⟨h.1, fun z => by
      have := none_of_th st2 (show H2 a = none by rw [z]; exact hq)
      rw [this] at e
      cases e⟩
    exact RReps.cut (rr'.keep (st2.trans s3).keeps fun _ _ z _ => z) i none
end
end VL

set_option Elab.async false
set_option linter.all false
set_option maxRecDepth 100000
set_option maxHeartbeats 1000000
/-! VL, part 15: a loop over such a list; its body may change the item. -/
namespace VL
open PySem PySem.Spec PyProof.Rows L2

/-- the item as the body sees it -/
def rTree : RV → Wp XE' PV
  | .pv v => .ret v.er
  | .ml xs => .all (fun _ => True) fun q => .ret (.lst (some q) (erL xs))
  | .md => .all (fun _ => True) fun q => .ret (.dic (some q) [])
def bodyE (ρ : Env') (iv : Nat) (t : PV) : Env' := ((ρ.map SV.er).map SV.hid).set iv (.fz t)
def forR (iv : Nat) (g : GS) : List RV → Env' → Wp XE' Out
  | [], ρ => .ret (.nx ρ)
  | r :: rs, ρ => (rTree r).bind fun t => (noE (g (bodyE ρ iv t))).bind fun o => match o with
    | .nx _ => forR iv g rs ρ
    | .ct _ => forR iv g rs ρ
    | .th none _ => forR iv g rs ρ
    | .rt v _ => .ret (.rt v.er ρ)
    | .th (some b) _ => .ret (.rt (.bl b) ρ)
    | .bk _ => .stuck
def pnOf (is : List Nat) (i : Nat) : Bool := !is.contains i
section
variable {c : Cn} {X : Cx} {W : WX} {pn : Nat → Bool} {g : GS} {pos : Pos} {σ σ' σ0 : St} {ρ ρ' ρ0 : Env'} {F H F' H' F0 H0 : Hp}
/-- where a loop stands: ρ with the loop's slots wiped -/
structure RAt (c : Cn) (pn : Nat → Bool) (is : List Nat) (σ0 : St) (ρ0 : Env') (F0 H0 : Hp) (ρ : Env') (F : Hp) (a : Addr) (ws : List V) (rs : List RV) (i : Nat) (σ : St) (H : Hp) : Prop where
  st : StpS c pn σ0 ρ0 F0 H0 σ ρ F H
  la : H a = some (.lst ws)
  no : ¬ Own σ ρ a
  Fa : F a = none
  rr : RReps c σ ρ F H (fun x => H0 x = none ∧ x ≠ a) (ws.drop i) (rs.drop i)
/-- the body's steps, seen from outside -/
theorem RAt.after {B : Addr → Prop} {is : List Nat} {a : Addr} {ws : List V} {rs : List RV} {i iv : Nat} {w : V} {t : PV} {Fb Fb' : Hp} {ρb : Env'} (h : RAt c pn is σ0 ρ0 F0 H0 (wipeE ρ is) F a ws rs i σ H) (hiv : iv ∈ is)
    (sub : ∀ p o, F p = some o → Fb p = some o) (hl : σ'.length = σ.length) (hp : ∀ j, j ∉ is → σ'[j]? = σ[j]?) (hpn : ∀ j, j ∈ is → pn j = false)
    (N : Addr → Prop) (keep : ∀ p o, H p = some o → N p → H' p = some o) (hF : ∀ p o, F p = some o → N p) (hn0 : ∀ p o, H0 p = some o → N p) (ha : N a) (th : ∀ p o, H p = some o → ∃ o', H' p = some o')
    (rr : RReps c σ (wipeE ρ is) F H (fun x => (H0 x = none ∧ x ≠ a) ∧ N x) (ws.drop (i + 1)) (rs.drop (i + 1))) (hN : ∀ p, Own σ (wipeE ρ is) p → N p) : RAt c pn is σ0 ρ0 F0 H0 (wipeE ρ is) F a ws rs (i + 1) σ' H' := by
  have get : ∀ {j : Nat} {s : SV}, (wipeE ρ is)[j]? = some s → s ≠ .un → σ'[j]? = σ[j]? := fun {j s} e n => by
    refine hp j fun hj => ?_
    rw [wipeE_get, if_pos hj] at e
    split at e
    · cases e; exact n rfl
    · cases e
  have own : ∀ {p}, Own σ' (wipeE ρ is) p ↔ Own σ (wipeE ρ is) p := fun {p} => ⟨fun ⟨j, s, a, b, d⟩ => ⟨j, s, by rw [← get b (fun z => by rw [z] at d; cases d)]; exact a, b, d⟩, fun ⟨j, s, a, b, d⟩ => ⟨j, s, by rw [get b (fun z => by rw [z] at d; cases d)]; exact a, b, d⟩⟩
  have er := h.st.2.1
  have er' : ER c F H' σ' (wipeE ρ is) := ⟨fun p o e => keep p o (er.sub p o e) (hF p o e), by rw [hl]; exact er.len, fun j o s h1 h2 => by
    cases s with
    | un => trivial
    | fz v => rw [get h2 (fun z => nomatch z)] at h1; exact er.slot j o _ h1 h2
    | ow xs =>
      rw [get h2 (fun z => nomatch z)] at h1
      obtain ⟨p, us, e, f, q, r⟩ := er.slot j o _ h1 h2
      subst e
      exact ⟨p, us, rfl, f, keep p _ q (hN p ⟨j, _, h1, h2, rfl⟩), r⟩
    | bx n =>
      rw [get h2 (fun z => nomatch z)] at h1
      obtain ⟨p, us, e, f, q, r⟩ := er.slot j o _ h1 h2
      subst e
      exact ⟨p, us, rfl, f, keep p _ q (hN p ⟨j, _, h1, h2, rfl⟩), r⟩, fun j k s t p h1 h2 h3 h4 h5 h6 => by
    rw [get h3 (fun z => by rw [z] at h5; cases h5)] at h1
    rw [get h4 (fun z => by rw [z] at h6; cases h6)] at h2
    exact er.dis j k s t p h1 h2 h3 h4 h5 h6, fun p b => (er.mrk p b).elim fun o e => th p o e⟩
  refine ⟨⟨⟨h.st.1.ff, fun p o e n => ?_, fun p o e => ?_, fun p z => h.st.1.ow p (own.mp z)⟩, er', fun j hj => ?_, hl.trans h.st.2.2.2⟩, keep a _ h.la ha, fun z => h.no (own.mp z), h.Fa, ?_⟩
  · obtain ⟨h1, h2⟩ := h.st.1.hh p o e n
    exact ⟨keep p o h1 (hn0 p o e), h2⟩
  · obtain ⟨o1, h1⟩ := h.st.1.th p o e
    exact th p o1 h1
  · rw [hp j (fun z => by rw [hpn j z] at hj; cases hj)]
    exact h.st.2.2.1 j hj
  · exact rr.keep ⟨Same.refl F, fun p o z e f n => ⟨keep p o e z.2, f, fun q => n (own.mp q)⟩⟩ fun p o z _ => z.1
/-- an item, ready for the body -/
structure ItemOk (c : Cn) (is : List Nat) (H0 : Hp) (ρ : Env') (F : Hp) (a : Addr) (ws : List V) (rest : List RV) (i : Nat) (σ : St) (H : Hp) (w : V) (t : PV) (B : Addr → Prop) (Fb : Hp) : Prop where
  sub : Same F Fb
  inH : Same Fb H
  bH : ∀ p, B p → ∃ o, H p = some o
  rep : Rep (c.at B) Fb w t
  hF : ∀ p o, F p = some o → B p
  hn0 : ∀ p o, H0 p = some o → B p
  ha : B a
  hN : ∀ p, Own σ (wipeE ρ is) p → B p
  hFb : ∀ p, B p → F p = none → Fb p = none
  rr : RReps c σ (wipeE ρ is) F H (fun x => (H0 x = none ∧ x ≠ a) ∧ B x) (ws.drop (i + 1)) rest
theorem RAt.item {is : List Nat} {a : Addr} {ws : List V} {rs rest : List RV} {r : RV} {i : Nat} (h : RAt c pn is σ0 ρ0 F0 H0 (wipeE ρ is) F a ws rs i σ H) (hr : rs.drop i = r :: rest) :
    ∃ w t B Fb, ws[i]? = some w ∧ (∀ K E, (rTree r).run K E → K t) ∧ ItemOk c is H0 ρ F a ws rest i σ H w t B Fb := by
  have er := h.st.2.1
  have rr := h.rr
  rw [hr] at rr
  have inH : ∀ {p o}, H0 p = some o → H p ≠ none := fun {p o} e z => by
    obtain ⟨o1, h1⟩ := h.st.1.th p o e
    rw [h1] at z
    cases z
  have dom : ∀ {p}, H p ≠ none → ∃ o, H p = some o := fun {p} b => by
    cases e : H p with
    | none => exact absurd e b
    | some o => exact ⟨o, rfl⟩
  cases hw : ws.drop i with
  | nil => rw [hw] at rr; cases r <;> exact rr.elim
  | cons w ws' =>
    have hi : ws[i]? = some w := by rw [← List.head?_drop, hw]; rfl
    have hd : ws.drop (i + 1) = ws' := by rw [← List.tail_drop, hw]; rfl
    rw [hw] at rr
    cases r with
    | pv v =>
      obtain ⟨r1, r2⟩ := rr
      refine ⟨w, v.er, fun x => H x ≠ none, F, hi, fun K E z => z, ⟨Same.refl F, er.sub, (fun p b => dom b), r1.er, fun p o e z => ?_, fun p o e => inH e, fun z => ?_, fun p z q => ?_, fun p _ z => z, ?_⟩⟩
      · rw [er.sub p o e] at z; cases z
      · rw [h.la] at z; cases z
      · obtain ⟨_, us, e⟩ := Own.tracked er z; rw [e] at q; cases q
      · rw [hd]; exact r2.keep .refl fun p o z e => ⟨z, by rw [e]; exact fun z => nomatch z⟩
    | ml xs =>
      obtain ⟨q, ys, rfl, hn, f, hq, no, ry, r2⟩ := rr
      have fz := freeze_grow er.sub f hq
      refine ⟨_, .lst (some q) (erL xs), fun x => H x ≠ none ∧ x ≠ q, upd F q (.lst ys), hi, fun K E z => z q trivial, ⟨fz.1, fz.2, (fun p b => dom b.1), .lst upd_same ((ry.mono fz.1).er') (fun p z => ?_), fun p o e => ⟨fun z => ?_, fun z => ?_⟩, fun p o e => ⟨inH e, fun z => ?_⟩, ⟨fun z => ?_, fun z => hn.2 z.symm⟩, fun p z => ⟨fun y => ?_, fun y => ?_⟩, fun p b z => ?_, ?_⟩⟩
      · cases z; exact ⟨rfl, fun z => z.2 rfl⟩
      · rw [er.sub p o e] at z; cases z
      · rw [z, f] at e; cases e
      · rw [z, hn.1] at e; cases e
      · rw [h.la] at z; cases z
      · obtain ⟨_, us, e⟩ := Own.tracked er z; rw [e] at y; cases y
      · rw [y] at z; exact no z
      · rw [upd_ne b.2]; exact z
      · rw [hd]; exact r2.keep .refl fun p o z e => ⟨z.1, by rw [e]; exact (fun z => nomatch z), z.2⟩
    | md =>
      obtain ⟨q, rfl, hn, f, hq, no, r2⟩ := rr
      have fz := freeze_grow er.sub f hq
      refine ⟨_, .dic (some q) [], fun x => H x ≠ none ∧ x ≠ q, upd F q (.dK []), hi, fun K E z => z q trivial, ⟨fz.1, fz.2, (fun p b => dom b.1), .dic upd_same .nil (fun p z => ?_), fun p o e => ⟨fun z => ?_, fun z => ?_⟩, fun p o e => ⟨inH e, fun z => ?_⟩, ⟨fun z => ?_, fun z => hn.2 z.symm⟩, fun p z => ⟨fun y => ?_, fun y => ?_⟩, fun p b z => ?_, ?_⟩⟩
      · cases z; exact ⟨rfl, fun z => z.2 rfl⟩
      · rw [er.sub p o e] at z; cases z
      · rw [z, f] at e; cases e
      · rw [z, hn.1] at e; cases e
      · rw [h.la] at z; cases z
      · obtain ⟨_, us, e⟩ := Own.tracked er z; rw [e] at y; cases y
      · rw [y] at z; exact no z
      · rw [upd_ne b.2]; exact z
      · rw [hd]; exact r2.keep .refl fun p o z e => ⟨z.1, by rw [e]; exact (fun z => nomatch z), z.2⟩
theorem forR_core {K : PySem.W.Frag} {is : List Nat} {iv : Nat} {D : Ends} {a : Addr} {ws : List V} {rs : List RV} (hiv : iv ∈ is) (hpn : ∀ j, j ∈ is → pn j = false)
    (st0 : RAt c pn is σ0 ρ0 F0 H0 (wipeE ρ is) F a ws rs 0 σ H) (run : (forR iv g rs (wipeE ρ is)).run (OkS c pn σ0 ρ0 F0 H0 D) (ErS c pn W σ0 ρ0 F0 H0)) :
    ∃ W0 : Nat → Nat → St → Hp → Prop, (∃ m, W0 0 m σ H) ∧ ∀ i m σ H, W0 i m σ H → ((Itl K a).stop i H ∧ D.nx σ H) ∨ ((Itl K a).go i H ∧ ∃ N : St → Hp → Prop, (∀ σ' H', N σ' H' → ∃ m', m' < m ∧ W0 (i + 1) m' σ' H') ∧
      ∀ x H', (Itl K a).yld i H x H' → gName iv x σ H' fun σ2 H2 => ∃ B, tS (c.at B) (pnOf is) W g { D with nx := N, ct := N, bk := D.nx } σ2 H2) := by
  have len0 := st0.rr.length
  rw [List.drop_zero, List.drop_zero] at len0
  refine ⟨fun i m σ' H' => m = rs.length - i ∧ i ≤ rs.length ∧ RAt c pn is σ0 ρ0 F0 H0 (wipeE ρ is) F a ws rs i σ' H' ∧ (forR iv g (rs.drop i) (wipeE ρ is)).run (OkS c pn σ0 ρ0 F0 H0 D) (ErS c pn W σ0 ρ0 F0 H0),
    ⟨_, rfl, Nat.zero_le _, st0, run⟩, fun i m σ1 H1 hW => ?_⟩
  obtain ⟨rfl, hle, h, run⟩ := hW
  by_cases hi : i < rs.length
  · obtain ⟨r, rest, hr⟩ : ∃ r rest, rs.drop i = r :: rest := ⟨rs[i], rs.drop (i + 1), List.drop_eq_getElem_cons hi⟩
    have hrest : rs.drop (i + 1) = rest := by rw [← List.tail_drop, hr]; rfl
    obtain ⟨w, t, B, Fb, hw, ht, T⟩ := h.item hr
    rw [hr] at run
    have run2 := ht _ _ run
    refine .inr ⟨⟨ws, w, SqL.of h.la, hw⟩, fun σ' H' => RAt c pn is σ0 ρ0 F0 H0 (wipeE ρ is) F a ws rs (i + 1) σ' H' ∧ (forR iv g (rs.drop (i + 1)) (wipeE ρ is)).run (OkS c pn σ0 ρ0 F0 H0 D) (ErS c pn W σ0 ρ0 F0 H0),
      fun σ' H' z => ⟨rs.length - (i + 1), by omega, rfl, hi, z.1, z.2⟩, fun x H2 hy => ?_⟩
    obtain ⟨eH, hy⟩ := hy
    subst eH
    have e2 := hy ws (SqL.of h.la)
    rw [hw] at e2
    cases e2
    have er := h.st.2.1
    have er1 : ER (c.at B) Fb H2 σ1 (((wipeE ρ is).map SV.er).map SV.hid) := (er.er (B := B) T.bH).map T.inH (fun j o s h1 h2 z => by
      cases s with
      | fz v => obtain ⟨u, e, r⟩ := z; exact ⟨u, e, r.mono T.sub⟩
      | _ => trivial) (fun t z => by rw [hid_own] at z; cases z) T.bH
    have er2 := er1.set (i := iv) T.rep
    have nOwn : ∀ p, ¬ Own (σ1.set iv (some w)) (bodyE (wipeE ρ is) iv t) p := fun p z => by
      obtain ⟨j, s, h1, h2, h3⟩ := own_set z
      rw [List.getElem?_map] at h2
      obtain ⟨y, e1, rfl⟩ := Option.map_eq_some_iff.mp h2
      rw [hid_own] at h3
      cases h3
    have hpin : ∀ {σ' : St}, (∀ j, pnOf is j = true → σ'[j]? = (σ1.set iv (some w))[j]?) → ∀ j, j ∉ is → σ'[j]? = σ1[j]? := fun {σ'} q j hj => by
      rw [q j (by unfold pnOf; simpa using hj), List.getElem?_set_ne (fun z => hj (by rw [← z]; exact hiv))]
    have hlen : ∀ {σ' : St}, σ'.length = (σ1.set iv (some w)).length → σ'.length = σ1.length := fun {σ'} q => by rw [q, List.length_set]
    have rr := T.rr
    rw [← hrest] at rr
    have nxt : ∀ {σ' ρ' F' H'}, StpS (c.at B) (pnOf is) (σ1.set iv (some w)) (bodyE (wipeE ρ is) iv t) Fb H2 σ' ρ' F' H' → RAt c pn is σ0 ρ0 F0 H0 (wipeE ρ is) F a ws rs (i + 1) σ' H' := fun {σ' ρ' F' H'} s =>
      h.after (iv := iv) (w := w) (t := t) (B := B) (Fb := Fb) (Fb' := Fb) (ρb := ρ) hiv T.sub (hlen s.2.2.2) (hpin s.2.2.1) hpn B (fun p o e _ => (s.1.hh p o e (nOwn p)).1) T.hF T.hn0 T.ha s.1.th rr T.hN
    have nxt2 : ∀ {σ' ρ' H'}, Thw (c.at B) (pnOf is) (σ1.set iv (some w)) (bodyE (wipeE ρ is) iv t) H2 σ' ρ' H' → RAt c pn is σ0 ρ0 F0 H0 (wipeE ρ is) F a ws rs (i + 1) σ' H' := fun {σ' ρ' H'} s =>
      h.after (iv := iv) (w := w) (t := t) (B := B) (Fb := Fb) (Fb' := Fb) (ρb := ρ) hiv T.sub (hlen s.len) (hpin s.pn) hpn B (fun p o e b => s.hh p o e (nOwn p) b) T.hF T.hn0 T.ha s.th rr T.hN
    refine ⟨B, _, Fb, er2, (g _).mono (fun o q => ?_) (fun e q => q.elim) run2⟩
    cases o with
    | nx ρ' => exact fun σ' F' H' s => ⟨nxt s, by rw [hrest]; exact q⟩
    | ct ρ' => exact fun σ' F' H' s => ⟨nxt s, by rw [hrest]; exact q⟩
    | bk ρ' => exact q.elim
    | rt v ρ' =>
      refine fun u σ' F' H' s rp => (show OkS c pn σ0 ρ0 F0 H0 D (.rt v.er (wipeE ρ is)) from q) u σ' F' H' ?_ (rp.er (B := c.B))
      have n := nxt s
      refine ⟨⟨n.st.1.ff.trans (T.sub.trans s.1.ff), fun p o e no => ⟨(n.st.1.hh p o e no).1, fun z => ?_⟩, n.st.1.th, n.st.1.ow⟩, ?_, n.st.2.2.1, n.st.2.2.2⟩
      · obtain ⟨a1, a2⟩ := h.st.1.hh p o e no
        exact (s.1.hh p o a1 (nOwn p)).2 (T.hFb p (T.hn0 p o e) (a2 z))
      · have e0 := n.st.2.1
        have hf : ∀ p vs, H' p = some (.lst vs) → Own σ' (wipeE ρ is) p → F' p = none := fun p vs _ z => by
          have z1 : Own σ1 (wipeE ρ is) p := by
            obtain ⟨j, y, b1, b2, b3⟩ := z
            refine ⟨j, y, ?_, b2, b3⟩
            rw [← hpin s.2.2.1 j (fun hj => by rw [wipeE_get, if_pos hj] at b2; split at b2 <;> cases b2; cases b3)]
            exact b1
          obtain ⟨f1, us, h1⟩ := Own.tracked er z1
          exact (s.1.hh p _ h1 (nOwn p)).2 (T.hFb p (T.hN p z1) f1)
        refine ⟨s.2.1.sub, e0.len, fun j o y h1 h2 => ?_, e0.dis, e0.mrk⟩
        have z := e0.slot j o y h1 h2
        cases y with
        | un => trivial
        | fz v => obtain ⟨x, e, r⟩ := z; exact ⟨x, e, r.mono (T.sub.trans s.1.ff)⟩
        | ow xs => obtain ⟨p, us, e, f, b, r⟩ := z; subst e; exact ⟨p, us, rfl, hf p us b ⟨j, _, h1, h2, rfl⟩, b, r.mono (T.sub.trans s.1.ff)⟩
        | bx k => obtain ⟨p, us, e, f, b, r⟩ := z; subst e; exact ⟨p, us, rfl, hf p us b ⟨j, _, h1, h2, rfl⟩, b, r⟩
    | th o ρ' => cases o with
      | none => exact fun σ' H' s => ⟨fun _ => ⟨nxt2 s, by rw [hrest]; exact q⟩, fun b z => nomatch z⟩
      | some b => exact fun σ' H' s => ⟨(fun z => nomatch z), fun b' z => by
          cases z
          exact (show OkS c pn σ0 ρ0 F0 H0 D (.rt (.bl b) (wipeE ρ is)) from q) (.bl b) σ' F H' (nxt2 s).st (.bl b)⟩
  · have e : i = rs.length := by omega
    subst e
    rw [List.drop_length] at run
    exact .inl ⟨⟨ws, SqL.of h.la, by omega⟩, run σ1 F H1 h.st⟩
/-! ### the statements -/
theorem er_wipeE {is : List Nat} (er : ER c F H σ ρ) : ER c F H σ (wipeE ρ is) := by
  have get : ∀ {j : Nat} {s : SV}, (wipeE ρ is)[j]? = some s → s ≠ .un → ρ[j]? = some s := fun {j s} e n => by
    rw [wipeE_get] at e
    split at e
    · split at e
      · cases e; exact absurd rfl n
      · cases e
    · exact e
  refine ⟨er.sub, by rw [wipeE_length]; exact er.len, fun j o s h1 h2 => ?_, fun j k s t p h1 h2 h3 h4 h5 h6 => er.dis j k s t p h1 h2 (get h3 fun z => by rw [z] at h5; cases h5) (get h4 fun z => by rw [z] at h6; cases h6) h5 h6, er.mrk⟩
  by_cases e : s = .un
  · subst e; trivial
  · exact er.slot j o s h1 (get h2 e)
theorem own_wipeE {is : List Nat} {p : Addr} (h : Own σ (wipeE ρ is) p) : Own σ ρ p := by
  obtain ⟨j, s, h1, h2, h3⟩ := h
  rw [wipeE_get] at h2
  split at h2
  · split at h2
    · cases h2; cases h3
    · cases h2
  · exact ⟨j, s, h1, h2, h3⟩
theorem rat0 {is : List Nat} {a : Addr} {ws : List V} {rs : List RV} (st : StpS c pn σ0 ρ0 F0 H0 σ ρ F H) (la : H a = some (.lst ws)) (no : ¬ Own σ ρ a) (Fa : F a = none) (rr : RReps c σ ρ F H (fun x => H0 x = none ∧ x ≠ a) ws rs) :
    RAt c pn is σ0 ρ0 F0 H0 (wipeE ρ is) F a ws rs 0 σ H :=
  ⟨⟨st.1.less fun p z => own_wipeE z, er_wipeE st.2.1, st.2.2.1, st.2.2.2⟩, la, fun z => no (own_wipeE z), Fa, by
    rw [List.drop_zero, List.drop_zero]
    exact rr.keep ⟨Same.refl F, fun p o _ h f n => ⟨h, f, fun z => n (own_wipeE z)⟩⟩ fun _ _ z _ => z⟩
theorem pss_any {body : List Stmt} {is : List Nat} (hb : ∀ B, PSs X body (tS (c.at B) (pnOf is) W g)) : PSs X body (fun D σ H => ∃ B, tS (c.at B) (pnOf is) W g D σ H) := ⟨fun pins s σ H D I ⟨B, h⟩ => (hb B).run pins s σ H D I h⟩
theorem tR_bindS {gr : GR} {k : List RV × Env' → Wp XE' Out} {D : Ends} {R : VK} (er : ER c F H σ ρ) (h : ((gr ρ).bind k).run (OkS c pn σ ρ F H D) (ErS c pn W σ ρ F H))
    (hk : ∀ rs ρ1 p ws F1 H1, StpE c σ ρ F H ρ1 F1 H1 → H p = none → F1 p = none → H1 p = some (.lst ws) → ¬ Own σ ρ1 p → RReps c σ ρ1 F1 H1 (fun a => H a = none ∧ a ≠ p) ws rs → (k (rs, ρ1)).run (OkS c pn σ ρ F H D) (ErS c pn W σ ρ F H) → R (.ref p) H1) : tR c W gr σ H R :=
  ⟨ρ, F, er, (gr ρ).mono (fun r h1 p ws F1 H1 st a b d e f => hk r.1 r.2 p ws F1 H1 st a b d e f h1) (fun _ z => z.e) h⟩
def sForR (iv : Nat) (is : List Nat) (gr : GR) (g : GS) : GS := fun ρ => (gr ρ).bind fun a => forR iv g a.1 (wipeE a.2 is)
theorem vs_forR {tg iter : Expr} {body : List Stmt} {is : List Nat} {iv : Nat} {gr : GR} (hp : PassesOwn (model X.prog X.w) X.A X.env X.xe) (hc : X.calm = true) (hi : PE X iter (tR c W gr)) (hg : PG X tg (gName iv)) (hiv : iv ∈ is) (hpn : ∀ j, j ∈ is → pn j = false)
    (hb : ∀ B, PSs X body (tS (c.at B) (pnOf is) W g)) (hs : ∀ x, foldedSetIterable iter X.env x = pure x := by intro _; rfl) : PS X (.For tg iter body [] pos) (tS c pn W (sForR iv is gr g)) :=
  imp_PS (ps_for hp hc (pi_any hi) hg (pss_any hb) hs) fun D σ H ⟨ρ, F, er, z⟩ => tR_bindS er z fun rs ρ1 p ws F1 H1 st hn hF hH no rr h1 =>
    .inl ⟨p, ws, rfl, SqL.of hH, forR_core hiv hpn (rat0 st.s hH no hF rr) h1⟩
/-- slot j holds such a list, known from outside -/
def tSR (c : Cn) (pn : Nat → Bool) (W : WX) (j : Nat) (G : List RV → GS) : TS := fun D σ H => ∃ σ0 ρ0 F0 H0 ρ F p ws rs, StpS c pn σ0 ρ0 F0 H0 σ ρ F H ∧ σ[j]? = some (some (.ref p)) ∧ F p = none ∧ ¬ Own σ ρ p ∧ H p = some (.lst ws) ∧ RReps c σ ρ F H (fun a => H0 a = none ∧ a ≠ p) ws rs ∧
  (G rs ρ).run (OkS c pn σ0 ρ0 F0 H0 D) (ErS c pn W σ0 ρ0 F0 H0)
def sSetR (j : Nat) (gr : GR) (G : List RV → GS) : GS := fun ρ => (gr ρ).bind fun a => if j < a.2.length then G a.1 (a.2.set j (.fz .any)) else .stuck
theorem vss_setR {rest : List Stmt} {e : Expr} {j : Nat} {x : Str} {pos' : Pos} {gr : GR} {G : List RV → GS} (hN : X.N.Nodup) (hi : X.N[j]? = some x) (hx : Loc X.env.scope x) (hp : pn j = false) (he : PE X e (tR c W gr)) (hrest : PSs X rest (tSR c pn W j G)) (hs : swapsWith e (some (.Name x pos')) pos.line X.env = pure false := by rfl)
    (hf : X.fn x = true ∨ X.env.scope.names.lookup x = some .local := by first | exact .inl rfl | exact .inr rfl | assumption) : PSs X (.Assign [.Name x pos'] e pos :: rest) (tS c pn W (sSetR j gr G)) :=
  imp_PSs (pss_cons (ps_set hN hi hx he hs hf) hrest) fun D σ H ⟨ρ, F, er, z⟩ => tR_bindS er z fun rs ρ1 p ws F1 H1 st hn hF hH no rr h1 => by
    dsimp only at h1
    split at h1
    · rename_i hj
      have hl : j < σ.length := by rw [st.2.len]; exact hj
      refine ⟨σ, ρ, F, H, _, F1, p, ws, rs, ⟨st.1.less fun p q => own_set q, st.2.set (.any _), (fun i hi => List.getElem?_set_ne (fun q => by subst q; rw [hp] at hi; cases hi)), List.length_set⟩, List.getElem?_set_self hl, hF, fun z => no (own_set z), hH, ?_, h1⟩
      exact rr.keep ⟨Same.refl F1, fun q o _ h f n => ⟨h, f, fun z => n (own_set z)⟩⟩ fun _ _ z _ => z
    · exact h1.elim
def sForS (iv : Nat) (is : List Nat) (go : GO) (g : GS) : List RV → GS := fun rs ρ => (go ρ).bind fun i => forR iv g (cutP rs i.1 none) (wipeE i.2 is)
theorem vs_forRS {tg a : Expr} {lo : Option Expr} {body : List Stmt} {is : List Nat} {iv j : Nat} {p1 p2 : Pos} {go : GO} (hk : c.K = X.K) (hp : PassesOwn (model X.prog X.w) X.A X.env X.xe) (hc : X.calm = true) (ha : PE X a (tVar j)) (hl : PO X lo (tO c W go)) (hg : PG X tg (gName iv)) (hiv : iv ∈ is) (hpn : ∀ j, j ∈ is → pn j = false)
    (hb : ∀ B, PSs X body (tS (c.at B) (pnOf is) W g)) (hs : ∀ x, foldedSetIterable (.Subscript a (.Slice lo none none p2) p1) X.env x = pure x := by intro _; rfl) : PS X (.For tg (.Subscript a (.Slice lo none none p2) p1) body [] pos) (tSR c pn W j (sForS iv is go g)) :=
  imp_PS (ps_for hp hc (pi_any (pe_slice sl_list ha hl po_none)) hg (pss_any hb) hs) fun D σ H ⟨σ0, ρ0, F0, H0, ρ, F, p, ws, rs, st, hj, hF, no, hH, rr, z⟩ => by
    refine ⟨_, hj, ρ, F, st.2.1, (go ρ).mono (fun i h1 F1 H1 s1 => ?_) (fun e q => (q.step st).e) z⟩
    obtain ⟨a1, a2, a3⟩ := (StpE.keeps (N := fun _ => True) s1).hh p _ trivial hH hF no
    refine ⟨p, ws, rfl, SqL.of a1, fun q hq => ?_⟩
    have gq := upd_growH (o := .lst (cutV ws i.1 none)) s1.2.sub hq
    have s2 := gq.stpE s1.2
    have s12 := s1.trans s2
    refine .inl ⟨q, _, rfl, SqL.of upd_same, forR_core hiv hpn (rat0 (st.trans s12.s) upd_same (not_own_new s1.2 hq) (s1.2.sub.free hq) (RReps.cut ?_ i.1 none)) h1⟩
    exact (rr.keep (N := _) (M := fun x => H0 x = none ∧ x ≠ q) .refl fun x o h e => ⟨h.1, fun z => by
      have := none_of_th s1 (show H1 x = none by rw [z]; exact hq)
      rw [this] at e
      cases e⟩).keep s12.keeps fun _ _ z _ => z
theorem vs_forRN {tg a : Expr} {body : List Stmt} {is : List Nat} {iv j : Nat} (hp : PassesOwn (model X.prog X.w) X.A X.env X.xe) (hc : X.calm = true) (ha : PE X a (tVar j)) (hg : PG X tg (gName iv)) (hiv : iv ∈ is) (hpn : ∀ j, j ∈ is → pn j = false)
    (hb : ∀ B, PSs X body (tS (c.at B) (pnOf is) W g)) (hs : ∀ x, foldedSetIterable a X.env x = pure x := by intro _; rfl) : PS X (.For tg a body [] pos) (tSR c pn W j fun rs ρ => forR iv g rs (wipeE ρ is)) :=
  imp_PS (ps_for hp hc (pi_any ha) hg (pss_any hb) hs) fun D σ H ⟨σ0, ρ0, F0, H0, ρ, F, p, ws, rs, st, hj, hF, no, hH, rr, z⟩ =>
    ⟨_, hj, .inl ⟨p, ws, rfl, SqL.of hH, forR_core hiv hpn (rat0 st hH no hF rr) z⟩⟩
/-- .. where no change is seen from outside -/
def sSeqN (g h : GS) : GS := fun ρ => (g ρ).bind fun o => match o with
  | .nx ρ1 => h ρ1
  | .th none _ => .stuck
  | o => .ret o
theorem vss_consR {st : Stmt} {rest : List Stmt} {j : Nat} {G : List RV → GS} {h : GS} (h1 : PS X st (tSR c pn W j G)) (h2 : PSs X rest (tS c pn W h)) : PSs X (st :: rest) (tSR c pn W j fun rs => sSeqN (G rs) h) :=
  imp_PSs (pss_cons h1 h2) fun D σ H ⟨σ0, ρ0, F0, H0, ρ, F, p, ws, rs, s, hj, hF, no, hH, rr, z⟩ => ⟨σ0, ρ0, F0, H0, ρ, F, p, ws, rs, s, hj, hF, no, hH, rr, (G rs ρ).mono (fun o q => by
    cases o with
    | nx ρ1 => exact fun σ' F' H' s => ⟨ρ1, F', s.2.1, run_stepS s q⟩
    | bk ρ1 => exact q
    | ct ρ1 => exact q
    | rt v ρ1 => exact q
    | th o ρ1 => cases o with
      | none => exact q.elim
      | some b => exact fun σ' H' t => ⟨(fun z => nomatch z), (show OkS c pn σ0 ρ0 F0 H0 D (.th (some b) ρ1) from q) σ' H' t |>.2⟩) (fun _ q => q) z⟩
end
end VL

set_option Elab.async false
set_option linter.all false
set_option maxRecDepth 100000
set_option maxHeartbeats 1000000
/-! VL, part 16: new lists of defs, the box, tables of the top, defs from the head. -/
namespace VL
open PySem PySem.Spec PyProof.Rows L2

/-! ### a def as the head tells it -/
theorem fun_of {K : PySem.W.Frag} {x qual : Str} {st : Stmt} {f : Addr} {fd : FuncData} (F : FunD K x qual (defArgs st) (defBody st) (defScope st) [] [] f fd) : Fun K x qual st f fd := by
  obtain ⟨oc, od, dV, kV, doc, pm, an, cdv, ct, osl, e, lk, hc, hd, hk⟩ := F.ex
  rcases hd with ⟨_, rfl⟩ | ⟨n, _⟩
  · exact ⟨⟨oc, od, kV, doc, pm, an, cdv, ct, osl, e, lk, hc⟩, F.kp⟩
  · exact absurd rfl n

/-! ### a def that gives a new list: its one statement returns it -/
abbrev GFL := List PV → Wp XE' (List PV)
def SpL (c : Cn) (n : Nat) (m : GFL) : Sp := fun vs H Q _ => vs.length = n ∧ ∃ F xs, Same F H ∧ (∀ p, c.B p → ∃ o, H p = some o) ∧ Reps c F vs xs ∧
  (m xs).run (fun ys => ∀ p us F' H', Grow F H F' H' → H p = none → F' p = none → H' p = some (.lst us) → Reps c F' us ys → Q (.ref p) H') (fun _ => False)
def fnL (n : Nat) (gl : GL) : GFL := fun xs => (noE (gl (fzs xs ++ List.replicate (n - xs.length) .un))).bind fun r => .ret r.1
section
variable {c : Cn} {P : Program} {w : World} {K : PySem.W.Frag} {mg : Str → Option Value} {base : Heap} {x qual : Str} {st : Stmt} {f : Addr} {fd : FuncData} {N ps : List Str} {k n : Nat}
theorem fnL_ok {gl : GL} {e : Expr} {pos : Pos} (Fn : Fun K x qual st f fd) (S : FnScope N ps (defScope st)) (hn : ps.length = n) (hl : ps.length ≤ N.length) (hd : defBody st = [.Return (some e) pos])
    (hbody : ∀ (cdv : Value) (A : Around) (outer : List Env) (s : Shared) (H : Hp) (E : XK), Room k (A.deeper (envOfC qual (defScope st) s.heap.objs.size f cdv)) →
      PE (cxOf (L2.CX P w) P w K mg base N qual (defScope st) f cdv A outer s H E) e (tL c (fun cls d _ H' => E cls d H') gl)) : FnOk P w K mg base (L2.CX P w) (k + 1) f fd ps (SpL c n (fnL N.length gl)) :=
  Fn.okX S (fun vs H Q E h => h.1.trans hn.symm) fun cdv A outer s H vs Q E hr h => by
    refine ⟨_, by rw [hd]; exact pss_one (ps_ret (hbody cdv A outer s H E hr)), ?_⟩
    obtain ⟨hv, F, xs, sub, mk, rep, z⟩ := h
    have er := rep.er sub mk
    have hvl : vs.length ≤ N.length := by omega
    obtain ⟨er0, ow0⟩ := er_enter er hvl
    have nOwn : ∀ p, ¬ Own (L2.start N vs) (fzs xs ++ List.replicate (N.length - (fzs xs).length) .un) p := fun p z => fzs_own ((ow0 p).mp z)
    have hx : (fzs xs).length = xs.length := by unfold fzs; rw [List.length_map]
    unfold fnL at z
    rw [hx] at er0 nOwn
    refine ⟨_, F, er0, (gl _).mono (fun r q p us F' H' st' h1 h2 h3 h4 h5 => ?_) (fun e q => q.elim) z⟩
    exact q p us F' H' ⟨st'.1.ff, fun a o z => (st'.1.hh a o z (nOwn a)).1, st'.2.sub, fun a o z => (st'.1.hh a o z (nOwn a)).2⟩ h1 h2 h3 h5
end
structure FvL (P : Program) (w : World) (K : PySem.W.Frag) (mg : Str → Option Value) (base : Heap) (c : Cn) (k : Nat) (x : Str) (n : Nat) (m : GFL) : Prop where
  ex : ∃ (f : Addr) (fd : FuncData) (ps : List Str), ps.length = n ∧ mg x = some (.ref f) ∧ FnOk P w K mg base (L2.CX P w) k f fd ps (SpL c n m) ∧ PySem.W.keepIn K (.ref f) = true ∧ Binds K fd ps []
def lCall (m : GFL) (ga : GA) : GL := fun ρ => (ga ρ).bind fun a => (noE (m a.1)).bind fun r => .ret (r, a.2)
section
variable {c : Cn} {X : Cx} {W : WX} {pn : Nat → Bool} {pos p : Pos} {x : Str} {a b : Expr} {ga gb : GE}
theorem vl_callF {k j n : Nat} {m : GFL} {e : Expr} {es : List Expr} {ga : GA} (F : FvL X.prog X.w X.K X.mg X.base c k x n m) (hr : Room j X.A) (hj : k ≤ j) (hg : Gl X x) (tk : Takes X W) (ha : PA X (e :: es) (tA c W n ga))
    (hdb : (x == ("__debug__" : Str)) = false := by decide) (he : starEach (e :: es) X.env = (false, eval e X.env) :: starEach es X.env := by rfl) (hpl : (backTo pos (starEach es X.env)).any (·.1) = false := by rfl) :
    PE X (.Call (.Name x p) (e :: es) [] pos) (tL c W (lCall m ga)) := by
  obtain ⟨f, fd, ps, hp, hm, G, kp, hb⟩ := F.ex
  exact imp_PE (pe_callS G (hr.mono hj) hg hm kp hb (fun σ => passAt tk σ) ha hdb he hpl) fun σ H Q ⟨ρ, F, er, z⟩ =>
    tA_bind er z fun v ρ1 vs F1 H1 st rep hl h1 => ⟨hl, F1, v, st.2.sub, st.2.mrk, rep, (m v).mono (fun ys q p us F' H' gr h1 h2 h3 h4 => by
      have s2 := gr.stpE st.2
      exact q p us F' H' (st.trans s2) (none_of_th st h1) h2 h3 (fun z => not_own_new st.2 h1 z) h4) (fun _ z => z) h1⟩

/-! ### the box -/
def sBox (i : Nat) (g : GL) : GS := fun ρ => (g ρ).bind fun a => match a.1 with
  | [.int x, .bl _, .int d, .int m] => if 0 ≤ x ∧ 0 ≤ d ∧ d < 2147483629 ∧ 0 ≤ m then .ret (.nx (a.2.set i (.bx m.toNat))) else .stuck
  | _ => .stuck
theorem er_ownS {F H : Hp} {σ : St} {ρ : Env'} {i : Nat} {p : Addr} {s0 : SV} (er : ER c F H σ ρ) (hs : SlotR c F H (some (.ref p)) s0) (no : ¬ Own σ ρ p) :
    ER c F H (σ.set i (some (.ref p))) (ρ.set i s0) ∧ ∀ q, Own (σ.set i (some (.ref p))) (ρ.set i s0) q → Own σ ρ q ∨ q = p := by
  have len : ∀ {s : SV} {y : SV}, (ρ.set i y)[i]? = some s → i < ρ.length := fun {s y} h => by
    have := (List.getElem?_eq_some_iff.mp h).1
    rwa [List.length_set] at this
  have at_ : ∀ {j s q}, (σ.set i (some (.ref p)))[j]? = some (some (.ref q)) → (ρ.set i s0)[j]? = some s → s.own = true → (j = i ∧ q = p) ∨ (j ≠ i ∧ σ[j]? = some (some (.ref q)) ∧ ρ[j]? = some s) := fun {j s q} h1 h2 h3 => by
    by_cases hj : i = j
    · subst hj
      have hl := len h2
      rw [List.getElem?_set_self (by rw [er.len]; exact hl)] at h1
      cases h1
      exact .inl ⟨rfl, rfl⟩
    · rw [List.getElem?_set_ne hj] at h1 h2
      exact .inr ⟨Ne.symm hj, h1, h2⟩
  refine ⟨⟨er.sub, by rw [List.length_set, List.length_set]; exact er.len, fun j o s h1 h2 => ?_, fun j k s t q h1 h2 h3 h4 h5 h6 => ?_, er.mrk⟩, fun q ⟨j, s, h1, h2, h3⟩ => ?_⟩
  · by_cases hj : i = j
    · subst hj
      have hl := len h2
      rw [List.getElem?_set_self hl] at h2
      rw [List.getElem?_set_self (by rw [er.len]; exact hl)] at h1
      cases h1
      cases h2
      exact hs
    · rw [List.getElem?_set_ne hj] at h1 h2
      exact er.slot j o s h1 h2
  · rcases at_ h1 h3 h5 with ⟨e1, e2⟩ | ⟨n1, a1, b1⟩
    · rcases at_ h2 h4 h6 with ⟨e3, e4⟩ | ⟨n2, a2, b2⟩
      · exact e1.trans e3.symm
      · subst e2
        exact absurd ⟨k, t, a2, b2, h6⟩ no
    · rcases at_ h2 h4 h6 with ⟨e3, e4⟩ | ⟨n2, a2, b2⟩
      · subst e4
        exact absurd ⟨j, s, a1, b1, h5⟩ no
      · exact er.dis j k s t q a1 a2 b1 b2 h5 h6
  · rcases at_ h1 h2 h3 with ⟨e1, e2⟩ | ⟨n1, a1, b1⟩
    · exact .inr e2
    · exact .inl ⟨j, s, a1, b1, h3⟩
theorem vs_box {i : Nat} {e : Expr} {x : Str} {pos' : Pos} {gl : GL} (hN : X.N.Nodup) (hi : X.N[i]? = some x) (hx : Loc X.env.scope x) (hp : pn i = false) (he : PE X e (tL c W gl)) (hs : swapsWith e (some (.Name x pos')) pos.line X.env = pure false := by rfl)
    (hf : X.fn x = true ∨ X.env.scope.names.lookup x = some .local := by first | exact .inl rfl | exact .inr rfl | assumption) : PS X (.Assign [.Name x pos'] e pos) (tS c pn W (sBox i gl)) :=
  imp_PS (ps_set hN hi hx he hs hf) fun D σ H ⟨ρ, F, er, z⟩ => ⟨ρ, F, er, (gl ρ).mono (fun r h1 p vs F1 H1 st hn hF hH no rep => by
    obtain ⟨v, ρ1⟩ := r
    dsimp only at h1
    split at h1
    · rename_i a b d m
      split at h1
      · rename_i hz
        have ev : vs = [.int a, .bl b, .int d, .int m] := by
          cases rep with
          | cons r1 t1 => cases t1 with
            | cons r2 t2 => cases t2 with
              | cons r3 t3 => cases t3 with
                | cons r4 t4 => cases t4; cases r1; cases r2; cases r3; cases r4; rfl
        subst ev
        obtain ⟨er2, ow2⟩ := er_ownS (i := i) (s0 := .bx m.toNat) st.2 ⟨p, _, rfl, hF, hH, a, b, d, m, rfl, hz.1, hz.2.1, hz.2.2.1, hz.2.2.2, by omega⟩ no
        refine h1 _ F1 H1 ⟨⟨st.1.ff, st.1.hh, st.1.th, fun q z => ?_⟩, er2, (fun j hj => List.getElem?_set_ne (fun q => by subst q; rw [hp] at hj; cases hj)), List.length_set⟩
        rcases ow2 q z with z | z
        · exact st.1.ow q z
        · subst z; exact .inr hn
      · exact h1.elim
    · exact h1.elim) (fun _ q => q.e) z⟩
end
/-- the next digit, whatever it is -/
def mTake : GF := fun ss => match ss with
  | [.bx n, .fz (.int many)] => if 0 < many ∧ many < 1073741824 ∧ n < 4294967296 then .all (fun d : Int => 0 ≤ d ∧ d < many) fun d => .ret (.int d, [.bx (n + 1), .un]) else .stuck
  | _ => .stuck
/-- what a def for digits does with the box's four entries -/
def TakesBox (m : GF) : Prop := ∀ (a : Int) (b : Bool) (d k : Int) (n : Nat) (many : Int) (K : PV × List SV → Prop) (E : XE' → Prop), 0 ≤ a → 0 ≤ d → d < 2147483629 → 0 ≤ k → k ≤ n → 0 < many → many < 1073741824 → n < 4294967296 →
  (∀ (a' : Int) (b' : Bool) (d' k' z : Int), 0 ≤ a' → 0 ≤ d' → d' < 2147483629 → 0 ≤ k' → k' ≤ n + 1 → 0 ≤ z → z < many → K (.int z, [.ow [.int a', .bl b', .int d', .int k'], .un])) → (m [.ow [.int a, .bl b, .int d, .int k], .fz (.int many)]).run K E
theorem reps4 {c : Cn} {F : Hp} {vs : List V} {a d m : Int} {b : Bool} (rep : Reps c F vs [.int a, .bl b, .int d, .int m]) : vs = [.int a, .bl b, .int d, .int m] := by
  cases rep with
  | cons r1 t1 => cases t1 with
    | cons r2 t2 => cases t2 with
      | cons r3 t3 => cases t3 with
        | cons r4 t4 => cases t4; cases r1; cases r2; cases r3; cases r4; rfl
theorem er_view {c : Cn} {F H : Hp} {σ : St} {ρ : Env'} {i : Nat} {s s' : SV} (er : ER c F H σ ρ) (hi : ρ[i]? = some s) (ho : s.own = true) (ho' : s'.own = true) (hs : ∀ o, σ[i]? = some o → SlotR c F H o s') :
    ER c F H σ (ρ.set i s') ∧ ∀ p, Own σ (ρ.set i s') p ↔ Own σ ρ p := by
  have hil : i < ρ.length := (List.getElem?_eq_some_iff.mp hi).1
  have get : ∀ {j : Nat} {t : SV}, (ρ.set i s')[j]? = some t → t.own = true → ∃ t', ρ[j]? = some t' ∧ t'.own = true := fun {j t} h o => by
    by_cases hj : i = j
    · subst hj; exact ⟨s, hi, ho⟩
    · rw [List.getElem?_set_ne hj] at h; exact ⟨t, h, o⟩
  have get' : ∀ {j : Nat} {t : SV}, ρ[j]? = some t → t.own = true → ∃ t', (ρ.set i s')[j]? = some t' ∧ t'.own = true := fun {j t} h o => by
    by_cases hj : i = j
    · subst hj; exact ⟨s', List.getElem?_set_self hil, ho'⟩
    · exact ⟨t, by rw [List.getElem?_set_ne hj]; exact h, o⟩
  refine ⟨⟨er.sub, by rw [List.length_set]; exact er.len, fun j o t h1 h2 => ?_, fun j k t u p h1 h2 h3 h4 h5 h6 => ?_, er.mrk⟩, fun p => ⟨fun ⟨j, t, h1, h2, h3⟩ => ?_, fun ⟨j, t, h1, h2, h3⟩ => ?_⟩⟩
  · by_cases hj : i = j
    · subst hj
      rw [List.getElem?_set_self hil] at h2
      cases h2
      exact hs o h1
    · rw [List.getElem?_set_ne hj] at h2
      exact er.slot j o t h1 h2
  · obtain ⟨t1, a1, b1⟩ := get h3 h5
    obtain ⟨t2, a2, b2⟩ := get h4 h6
    exact er.dis j k t1 t2 p h1 h2 a1 a2 b1 b2
  · obtain ⟨t1, a1, b1⟩ := get h2 h3
    exact ⟨j, t1, h1, a1, b1⟩
  · obtain ⟨t1, a1, b1⟩ := get' h2 h3
    exact ⟨j, t1, h1, a1, b1⟩
theorem take_sp {c : Cn} {m : GF} (T : TakesBox m) {vs : List V} {H : Hp} {Q : VK} {E : XK} (h : SpV c 2 mTake vs H Q E) : SpV c 2 m vs H Q E := by
  obtain ⟨hl, F, ss, er, z⟩ := h
  unfold mTake at z
  split at z
  · rename_i n many
    split at z
    · rename_i hz
      obtain ⟨p, us, e1, hF, hH, a, b, d, k, rfl, h1, h2, h3, h4, h5⟩ := er.bx (i := 0) rfl
      obtain ⟨er2, ow2⟩ := er_view (s' := .ow [.int a, .bl b, .int d, .int k]) er (i := 0) rfl rfl rfl fun o ho => by
        rw [e1] at ho
        cases ho
        exact ⟨p, _, rfl, hF, hH, .cons (.int a) (.cons (.bl b) (.cons (.int d) (.cons (.int k) .nil)))⟩
      refine ⟨hl, F, _, er2, T a b d k n many _ _ h1 h2 h3 h4 h5 hz.1 hz.2.1 hz.2.2 fun a' b' d' k' q g1 g2 g3 g4 g5 g6 g7 => ?_⟩
      intro w F' H' st rp
      obtain ⟨p', us', e1', hF', hH', r'⟩ := st.2.ow (i := 0) rfl
      have e4 := reps4 r'
      subst e4
      obtain ⟨er3, ow3⟩ := er_view (s' := .bx (n + 1)) st.2 (i := 0) rfl rfl rfl fun o ho => by
        rw [e1'] at ho
        cases ho
        exact ⟨p', _, rfl, hF', hH', a', b', d', k', rfl, g1, g2, g3, g4, by omega⟩
      exact z q ⟨g6, g7⟩ w F' H' ⟨⟨st.1.ff, fun x o e no => st.1.hh x o e fun y => no ((ow2 x).mp y), st.1.th, fun x y => (st.1.ow x ((ow3 x).mp y)).imp (ow2 x).mp id⟩, er3⟩ rp
    · exact z.elim
  · exact z.elim
theorem take_fn {c : Cn} {P : Program} {w : World} {K : PySem.W.Frag} {mg : Str → Option Value} {base : Heap} {f : Addr} {fd : FuncData} {ps : List Str} {k : Nat} {m : GF} (T : TakesBox m) (F : FnOk P w K mg base (L2.CX P w) k f fd ps (SpV c 2 m)) :
    FnOk P w K mg base (L2.CX P w) k f fd ps (SpV c 2 mTake) := F.imp fun vs H Q E h => take_sp T h
theorem Fv.take {c : Cn} {P : Program} {w : World} {K : PySem.W.Frag} {mg : Str → Option Value} {base : Heap} {x : Str} {k : Nat} {m : GF} (T : TakesBox m) (F : Fv P w K mg base c k x 2 m) : Fv P w K mg base c k x 2 mTake := by
  obtain ⟨f, fd, ps, h1, h2, h3, h4, h5⟩ := F.ex
  exact ⟨f, fd, ps, h1, h2, take_fn T h3, h4, h5⟩

/-! ### a table of the top -/
def scalO : Value → Option V
  | .bool b => some (.bl b)
  | .none => some .non
  | .int i _ => some (.int i)
  | .str x _ => some (.str x)
  | _ => none
def entO (e : DictEntry) : Option (Str × V) := match e.key with
  | .str x _ => (scalO e.val).map fun v => (x, v)
  | _ => none
def tabB (K : PySem.W.Frag) (d : Addr) (kvs : List (Str × V)) : Bool := match K.lookup d with
  | some ⟨_, _, .dict es _, _⟩ => decide (es.toList.map entO = kvs.map some)
  | _ => false
theorem scalO_ok {u : Value} {v : V} (h : scalO u = some v) : RelV v u := by
  cases u <;> simp only [scalO] at h <;> first | (cases h; first | rfl | exact ⟨_, rfl⟩) | cases h
theorem find_ent {z : Str} : ∀ {es : List DictEntry} {kvs : List (Str × V)}, es.map entO = kvs.map some →
    (match kvs.lookup z with | some v => ∃ e, es.find? (·.key.isStr z) = some e ∧ RelV v e.val | none => es.find? (·.key.isStr z) = none) ∧ es.any (·.refKey) = false
  | [], [], _ => ⟨rfl, rfl⟩
  | [], _ :: _, h => by cases h
  | _ :: _, [], h => by cases h
  | e :: es, (k, v) :: kvs, h => by
    simp only [List.map_cons, List.cons.injEq] at h
    obtain ⟨h1, h2⟩ := h
    obtain ⟨r1, r2⟩ := find_ent (z := z) h2
    unfold entO at h1
    split at h1
    · rename_i y t hk
      obtain ⟨u, hu, e2⟩ := Option.map_eq_some_iff.mp h1
      cases e2
      have e3 : e.key.isStr z = (k == z) := by rw [hk]; rfl
      have e4 : e.refKey = false := by unfold DictEntry.refKey; rw [hk]
      refine ⟨?_, by rw [List.any_cons, e4, r2]; rfl⟩
      rw [List.lookup_cons, List.find?_cons, e3]
      by_cases hz : k = z
      · subst hz
        simp only [beq_self_eq_true]
        exact ⟨e, rfl, scalO_ok hu⟩
      · have a1 : (k == z) = false := by simpa using hz
        have a2 : (z == k) = false := by simpa using fun q => hz q.symm
        rw [a1, a2]
        exact r1
    · cases h1
structure TabK (K : PySem.W.Frag) (w : World) (mg : Str → Option Value) (x : Str) (kvs : List (Str × V)) : Prop where
  ex : ∃ d es n, mg x = some (.ref d) ∧ KDict K w d es n ∧ ∀ z, ∃ r, PySem.W.nsIn K d z = some r ∧ match kvs.lookup z with | some v => ∃ u, r = some u ∧ RelV v u | none => r = none
theorem tab_ok {K : PySem.W.Frag} {w : World} {mg : Str → Option Value} {x : Str} {kvs : List (Str × V)} {d : Addr} {es : Array DictEntry} {n : Nat} (hm : mg x = some (.ref d)) (D : KDict K w d es n) (h : tabB K d kvs = true) : TabK K w mg x kvs := by
  refine ⟨d, es, n, hm, D, fun z => ?_⟩
  unfold tabB at h
  rw [D.at_] at h
  obtain ⟨r1, r2⟩ := find_ent (z := z) (of_decide_eq_true h)
  unfold PySem.W.nsIn
  rw [D.at_]
  dsimp only
  cases hl : kvs.lookup z with
  | none =>
    rw [hl] at r1
    rw [r1, r2]
    exact ⟨none, rfl, rfl⟩
  | some v =>
    rw [hl] at r1
    obtain ⟨e, h1, h2⟩ := r1
    rw [h1]
    exact ⟨some e.val, rfl, e.val, rfl, h2⟩
def vPV : V → PV
  | .non => .non
  | .bl b => .bl b
  | .int i => .int i
  | .str x => .str x
  | _ => .any
theorem vPV_rep {c : Cn} {F : Hp} : ∀ v : V, Rep c F v (vPV v)
  | .non => .non
  | .bl b => .bl b
  | .int i => .int i
  | .str x => .str x
  | .byt b => .any _
  | .flt b => .any _
  | .ref a => .any _
  | .ty n => .any _
def tabIn (kvs : List (Str × V)) : PV → Option PV
  | .str z => some (.bl (kvs.lookup z).isSome)
  | _ => none
def tabIx (kvs : List (Str × V)) : PV → Option PV
  | .str z => (kvs.lookup z).map vPV
  | _ => none
section
variable {c : Cn} {X : Cx} {W : WX} {a : Expr} {ga : GE} {x : Str} {pos p : Pos} {kvs : List (Str × V)}
theorem ve_tabIn (T : TabK X.K X.w X.mg x kvs) (hg : Gl X x) (ha : PE X a (tE c W ga)) (hm : behindInMarks .In (.Name x p) = false := by rfl) (hd : (x == ("__debug__" : Str)) = false := by decide) : PE X (.Compare a [.In] [.Name x p] pos) (tE c W (eOp1 (tabIn kvs) ga)) := by
  obtain ⟨d, es, n, hm', D, hz⟩ := T.ex
  refine imp_PE (pe_cmpR (op_in_kd D) ha (pe_glob hg hm' (v := .ref d) rfl hd) hm) fun σ H Q ⟨ρ, F, er, z⟩ => tE_bind er z fun v ρ1 w F1 H1 st rep h1 => ?_
  obtain ⟨u, e, h1⟩ := lift_run h1
  cases rep with
  | str y =>
    cases e
    obtain ⟨r, h2, h3⟩ := hz y
    have hb : r.isSome = (kvs.lookup y).isSome := by
      cases hl : kvs.lookup y with
      | none => rw [hl] at h3; dsimp only at h3; rw [h3]; rfl
      | some v => rw [hl] at h3; obtain ⟨u, e, _⟩ := h3; rw [e]; rfl
    exact ⟨y, r, rfl, rfl, h2, by rw [hb]; exact h1 _ F1 H1 st (.bl _)⟩
  | _ => cases e
theorem ve_tabIx (T : TabK X.K X.w X.mg x kvs) (hg : Gl X x) (ha : PE X a (tE c W ga)) (hs : PlainIx a := by intro _ _; rfl) (hd : (x == ("__debug__" : Str)) = false := by decide) : PE X (.Subscript (.Name x p) a pos) (tE c W (eOp1 (tabIx kvs) ga)) := by
  obtain ⟨d, es, n, hm', D, hz⟩ := T.ex
  refine imp_PE (pe_ix ix_kdict (pe_glob hg hm' (v := .ref d) rfl hd) ha hs) fun σ H Q ⟨ρ, F, er, z⟩ => tE_bind er z fun v ρ1 w F1 H1 st rep h1 => ?_
  obtain ⟨u, e, h1⟩ := lift_run h1
  cases rep with
  | str y =>
    obtain ⟨v, hl, e2⟩ := Option.map_eq_some_iff.mp (show (kvs.lookup y).map vPV = some u from e)
    obtain ⟨r, h2, h3⟩ := hz y
    rw [hl] at h3
    obtain ⟨u0, e3, h4⟩ := h3
    subst e2
    rw [e3] at h2
    exact ⟨d, y, v, rfl, rfl, ⟨es, n, u0, D.at_, D.lit, h2, h4⟩, h1 _ F1 H1 st (vPV_rep v)⟩
  | _ => cases e
end
end VL

set_option Elab.async false
set_option linter.all false
set_option maxRecDepth 100000
set_option maxHeartbeats 1000000
/-! VL, part 17: the text's own error classes with one field. -/
namespace VL
open PySem PySem.Spec PyProof.Rows L2

def oexB (K : PySem.W.Frag) (C : Addr) : Bool := match K.lookup C with
  | some ⟨.type "type", _, .cls cd, sl⟩ => (match cd.mro, sl.toList with
    | .ref C' :: bm, [_, _, _, _, some (.builtin n), _] => C' == C && (n == "ValueError.__new__" && (!cd.hasDel && (cd.hasDict && PySem.HandSPX.refsVE bm)))
    | _, _ => false)
  | _ => false
def excB (K : PySem.W.Frag) (x f : Str) : Bool := oexB K (He.ga K x) && (decide (PySem.W.findIn K (.ref (He.ga K x)) "__setattr__" = some (some (.builtin "object.__setattr__"))) &&
  (decide (PySem.W.subIn K (.ref (He.ga K x)) (.type "BaseException") = some true) && (decide (PySem.W.typeIn K (.ref (He.ga K x)) = some (.type "type")) && (PySem.W.keepIn K (.ref (He.ga K x)) &&
  (decide (PySem.W.findIn K (.ref (He.ga K x)) f = some none) && (decide (PySem.W.findIn K (.ref (He.ga K x)) "__init__" = some (some (.ref (He.ma K (He.ga K x) "__init__")))) &&
  (decide (PySem.W.typeIn K (.ref (He.ma K (He.ga K x) "__init__")) = some (.type "function")) && xfB K (He.ga K x))))))))
structure ExcT (K : PySem.W.Frag) (C fI : Addr) (f : Str) : Prop where
  T : OexC K C
  no : PySem.W.findIn K (.ref C) f = some none
  iC : PySem.W.findIn K (.ref C) "__init__" = some (some (.ref fI))
  tI : PySem.W.typeIn K (.ref fI) = some (.type "function")
  xf : XfC K C
theorem excB_ok {K : PySem.W.Frag} {x f : Str} (h : excB K x f = true) : ExcT K (He.ga K x) (He.ma K (He.ga K x) "__init__") f := by
  unfold excB at h
  simp only [Bool.and_eq_true, decide_eq_true_eq] at h
  obtain ⟨h1, h2, h3, h4, h5, h6, h7, h8, h9⟩ := h
  refine ⟨⟨?_, h2, h3, h4, h5⟩, h6, h7, h8, xfB_ok h9⟩
  unfold oexB at h1
  split at h1
  · rename_i dd cd sl ho
    split at h1
    · rename_i C' bm k0 k1 k2 k3 n k5 hm hs
      simp only [Bool.and_eq_true, beq_iff_eq, Bool.not_eq_true'] at h1
      obtain ⟨e1, e2, hdel, hdict, ht⟩ := h1
      subst e1
      subst e2
      obtain ⟨nm, bs, mro, ns, qn, hd, sn, sub, ab, col, del⟩ := cd
      dsimp only at hm hdel hdict
      subst hm hdel hdict
      have hsl : sl = #[k0, k1, k2, k3, some (.builtin "ValueError.__new__"), k5] := by
        obtain ⟨l⟩ := sl
        simp only at hs
        rw [hs]
      subst hsl
      exact ⟨nm, qn, ns, bs, bm, sn, sub, ab, col, dd, k0, k1, k2, k3, k5, ho, ht⟩
    · cases h1
  · cases h1
section
variable {P : Program} {w : World} {K : PySem.W.Frag} {mg : Str → Option Value} {base : Heap} {x qual f : Str} {st : Stmt} {C fI : Addr} {fd : FuncData} {k : Nat} {c : Cn}
theorem init_ok (T : ExcT K C fI f) (Fn : Fun K "__init__" qual st fI fd) (S : FnScope ["self", f] ["self", f] (defScope st))
    (hbody : ∀ (cdv : Value) (A : Around) (outer : List Env) (s : Shared) (H : Hp) (E : XK), PSs (cxOf (L2.CX P w) P w K mg base ["self", f] qual (defScope st) fI cdv A outer s H E) (defBody st) (tOst K f (tVar 0) (tVar 1))) : FnOk P w K mg base (L2.CX P w) (k + 1) fI fd ["self", f] (spInit C f) :=
  Fn.okX S (fun vs H Q E h => by obtain ⟨a, y, rfl, _⟩ := h; rfl) fun cdv A outer s H vs Q E hr h => by
    refine ⟨_, hbody cdv A outer s H E, ?_⟩
    obtain ⟨a, y, rfl, ha, q⟩ := h
    exact ⟨y, rfl, .ref a, rfl, a, C, rfl, T.T, T.no, .inl ⟨ha, fun dx h1 h2 => q dx h1 h2⟩⟩
/-- one class, number j -/
theorem ec_ok {j : Nat} (hc : c.K = K) (hC : c.cA j = C) (T : ExcT K C fI f) (gC : mg x = some (.ref C)) (F : FnOk P w K mg base (L2.CX P w) k fI fd ["self", f] (spInit C f)) (hb : Binds K fd ["self", f] []) : Ec P w K mg base c k x j f := by
  subst hC
  exact ⟨gC, T.T, fI, fd, ["self", f], rfl, T.iC, T.tI, F, hb⟩
end
def hdsOk (n : Nat) (hs : List Hd) : Bool := hs.all fun h => match h.i with
  | some i => decide (i < n)
  | none => match h.b with
    | .many l => l.all fun s => match s with
      | .c _ => true
      | .f _ => false
    | .one _ => true
theorem hdsOk_ok {n : Nat} {hs : List Hd} (h : hdsOk n hs = true) : ∀ h ∈ hs, ∀ l, h.b = .many l → (∃ x, SI.f x ∈ l) → ∃ i, h.i = some i ∧ i < n := fun x hx l hl ⟨y, hy⟩ => by
  have q := List.all_eq_true.mp h x hx
  cases e : x.i with
  | some i => rw [e] at q; exact ⟨i, rfl, of_decide_eq_true q⟩
  | none =>
    rw [e, hl] at q
    have q2 := List.all_eq_true.mp q _ hy
    cases q2
end VL

set_option Elab.async false
set_option linter.all false
set_option maxRecDepth 100000
set_option maxHeartbeats 1000000
/-! VL, part 18: how mirrors compute. -/
namespace VL
open PySem PySem.Spec PyProof.Rows L2
/-- a program's rest, kept from simp: only the first part is computed, then the rest -/
class Kt (ε α β : Type) where
  f : α → Wp ε β
def bindI {ε α β : Type} (m : Wp ε α) [k : Kt ε α β] : Wp ε β := m.bind k.f
@[simp ↓] theorem bind_I {ε α β : Type} (m : Wp ε α) (f : α → Wp ε β) : m.bind f = @bindI _ _ _ m ⟨f⟩ := (rfl)
@[simp] theorem bindI_ret {ε α β : Type} (a : α) (f : α → Wp ε β) : @bindI _ _ _ (.ret a) ⟨f⟩ = f a := (rfl)
@[simp] theorem bindI_stuck {ε α β : Type} (f : α → Wp ε β) : @bindI _ _ _ (.stuck) ⟨f⟩ = .stuck := (rfl)
@[simp] theorem bindI_raise {ε α β : Type} (e : ε) (f : α → Wp ε β) : @bindI _ _ _ (.raise e) ⟨f⟩ = .raise e := (rfl)
@[simp] theorem bindI_bindI {ε α β γ : Type} (m : Wp ε α) (f : α → Wp ε β) (g : β → Wp ε γ) : @bindI _ _ _ (@bindI _ _ _ m ⟨f⟩) ⟨g⟩ = @bindI _ _ _ m ⟨fun a => (f a).bind g⟩ := (rfl)
@[simp] theorem bindI_rets {ε α : Type} (m : Wp ε α) : @bindI _ _ _ m ⟨Wp.ret⟩ = m := (rfl)
@[simp] theorem run_bindI {ε α β : Type} (m : Wp ε α) (f : α → Wp ε β) (K : β → Prop) (E : ε → Prop) : (@bindI _ _ _ m ⟨f⟩).run K E = m.run (fun a => (f a).run K E) E := (rfl)
@[simp] theorem mapE_bindI {ε ε' α β : Type} (g : ε → ε') (m : Wp ε α) (f : α → Wp ε β) : (@bindI _ _ _ m ⟨f⟩).mapE g = @bindI _ _ _ (m.mapE g) ⟨fun a => (f a).mapE g⟩ := (rfl)
@[simp] theorem noE_bindI {ε ε' α β : Type} (m : Wp ε α) (f : α → Wp ε β) : (noE (@bindI _ _ _ m ⟨f⟩) : Wp ε' β) = @bindI _ _ _ (noE m) ⟨fun a => noE (f a)⟩ := (rfl)
@[simp] theorem noEx_bindI {α β : Type} (m : Wp XE' α) (f : α → Wp XE' β) : noEx (@bindI _ _ _ m ⟨f⟩) = @bindI _ _ _ (noEx m) ⟨fun a => noEx (f a)⟩ := (rfl)
section
variable {g h : GE} {t u : GT} {a b : GS} {ρ : Env'} {i j : Nat} {v : PV} {gl : GL} {ga : GA} {gi : GI} {m : GF} {f1 : PV → Option PV} {f2 : PV → PV → Option PV} {lo hi : GO}
@[simp] theorem c_eC : eC v ρ = .ret (v, ρ) := (rfl)
theorem c_eVar (e : ρ[i]? = some (.fz v)) : eVar i ρ = .ret (v, ρ) := by unfold eVar; rw [e]
@[simp] theorem c_eVar' : eVar i ρ = (match ρ[i]? with | some (.fz v) => .ret (v, ρ) | _ => .stuck) := (rfl)
@[simp] theorem c_eOp1 : eOp1 f1 g ρ = (g ρ).bind fun a => lift (f1 a.1) a.2 := (rfl)
@[simp] theorem c_eOp2 : eOp2 f2 g h ρ = (g ρ).bind fun a => (h a.2).bind fun b => lift (f2 a.1 b.1) b.2 := (rfl)
@[simp] theorem c_eAnd : eAnd g h ρ = (g ρ).bind fun a => match a.1 with | .bl true => h a.2 | .bl false => .ret (.bl false, a.2) | _ => .stuck := (rfl)
@[simp] theorem c_eOr : eOr g h ρ = (g ρ).bind fun a => match a.1 with | .bl false => h a.2 | .bl true => .ret (.bl true, a.2) | _ => .stuck := (rfl)
@[simp] theorem c_eNot : eNot g ρ = (g ρ).bind fun a => match a.1 with | .bl b => .ret (.bl (!b), a.2) | _ => .stuck := (rfl)
@[simp] theorem c_eIf : eIf t g h ρ = (t ρ).bind fun a => if a.1 = true then g a.2 else h a.2 := (rfl)
@[simp] theorem c_gVal : gVal g ρ = (g ρ).bind fun a => match truth a.1 with | some b => .ret (b, a.2) | none => .stuck := (rfl)
@[simp] theorem c_gBl : gBl g ρ = (g ρ).bind fun a => match a.1 with | .bl b => .ret (b, a.2) | _ => .stuck := (rfl)
@[simp] theorem c_gAnd : gAnd t u ρ = (t ρ).bind fun a => if a.1 = true then u a.2 else .ret (false, a.2) := (rfl)
@[simp] theorem c_gOr : gOr t u ρ = (t ρ).bind fun a => if a.1 = true then .ret (true, a.2) else u a.2 := (rfl)
@[simp] theorem c_gNot : gNot t ρ = (t ρ).bind fun a => .ret (!a.1, a.2) := (rfl)
@[simp] theorem c_gYes : gYes ρ = .ret (true, ρ) := (rfl)
@[simp] theorem c_aNil : aNil ρ = .ret ([], ρ) := (rfl)
@[simp] theorem c_aCons : aCons g ga ρ = (g ρ).bind fun a => (ga a.2).bind fun b => .ret (a.1 :: b.1, b.2) := (rfl)
@[simp] theorem c_eTup : eTup ga ρ = (ga ρ).bind fun a => if a.1.length ≤ sizeLine then .ret (.tup a.1, a.2) else .stuck := (rfl)
@[simp] theorem c_eLst : eLst gl ρ = (gl ρ).bind fun a => .ret (.lst none a.1, a.2) := (rfl)
@[simp] theorem c_lDisp : lDisp ga ρ = (ga ρ).bind fun a => if a.1.length ≤ sizeLine then .ret a else .stuck := (rfl)
@[simp] theorem c_oNone : oNone ρ = .ret (none, ρ) := (rfl)
@[simp] theorem c_oSome : oSome g ρ = (g ρ).bind fun a => match a.1 with | .int i => .ret (some i, a.2) | _ => .stuck := (rfl)
@[simp] theorem c_eSl {f : PV → Option Int → Option Int → Option PV} : eSl f g lo hi ρ = (g ρ).bind fun a => (lo a.2).bind fun i => (hi i.2).bind fun j => lift (f a.1 i.1 j.1) j.2 := (rfl)
@[simp] theorem c_eCall : eCall m ga ρ = (ga ρ).bind fun a => ((m (fzs a.1)).mapE fun e => (e.1, a.2)).bind fun r => .ret (r.1, a.2) := (rfl)
@[simp] theorem c_eStrM : eStrM f2 g h ρ = (g ρ).bind fun a => if isStr a.1 = true then (h a.2).bind fun b => lift (f2 a.1 b.1) b.2 else .stuck := (rfl)
@[simp] theorem c_lStrM {f : PV → PV → Option (List PV)} : lStrM f g h ρ = (g ρ).bind fun a => if isStr a.1 = true then (h a.2).bind fun b => lift' (f a.1 b.1) b.2 else .stuck := (rfl)
@[simp] theorem c_lOp1 {f : PV → Option (List PV)} : lOp1 f g ρ = (g ρ).bind fun a => lift' (f a.1) a.2 := (rfl)
@[simp] theorem c_eIxO : eIxO i g ρ = if ownAt ρ i = true then (g ρ).bind fun a => match a.2[i]? with | some (.ow xs) => lift (pIx (.lst none xs) a.1) a.2 | _ => .stuck else .stuck := (rfl)
@[simp] theorem c_sSeq : sSeq a b ρ = (a ρ).bind fun o => match o with | .nx ρ1 => b ρ1 | .th none ρ1 => (noE (b ρ1)).bind thOut | o => .ret o := (rfl)
@[simp] theorem c_sSeqN : sSeqN a b ρ = (a ρ).bind fun o => match o with | .nx ρ1 => b ρ1 | .th none _ => .stuck | o => .ret o := (rfl)
@[simp] theorem c_sNil : sNil ρ = .ret (.nx ρ) := (rfl)
@[simp] theorem c_sSet : sSet i g ρ = (g ρ).bind fun a => .ret (.nx (a.2.set i (.fz a.1))) := (rfl)
@[simp] theorem c_sOwn : sOwn i gl ρ = (gl ρ).bind fun a => .ret (.nx (a.2.set i (.ow a.1))) := (rfl)
@[simp] theorem c_sRet : sRet g ρ = (g ρ).bind fun a => .ret (.rt a.1 a.2) := (rfl)
@[simp] theorem c_sIf : sIf t a b ρ = (t ρ).bind fun c => if c.1 = true then a c.2 else b c.2 := (rfl)
@[simp] theorem c_sPutO {k : GE} : sPutO i k g ρ = (g ρ).bind fun v => if ownAt v.2 i = true then (k v.2).bind fun k => match k.2[i]? with
  | some (.ow xs) => match k.1 with
    | .int z => match ixN xs.length z with
      | some j => .ret (.nx (k.2.set i (.ow (xs.set j v.1))))
      | none => .stuck
    | _ => .stuck
  | _ => .stuck
  else .stuck := (rfl)
@[simp] theorem c_sAppO : sAppO i g ρ = if ownAt ρ i = true then (g ρ).bind fun a => match a.2[i]? with
  | some (.ow xs) => if xs.length < sizeLine then .ret (.nx (a.2.set i (.ow (xs ++ [a.1])))) else .stuck
  | _ => .stuck
  else .stuck := (rfl)
@[simp] theorem c_sRaise {k : Nat} {f : Str} : sRaise k f g ρ = (g ρ).bind fun a => .raise (⟨k, [(f, a.1)]⟩, a.2) := (rfl)
@[simp] theorem c_iSeq : iSeq g ρ = (g ρ).bind fun a => lift' (items a.1) a.2 := (rfl)
@[simp] theorem c_iRng : iRng g ρ = (g ρ).bind fun a => lift' (iRange a.1) a.2 := (rfl)
@[simp] theorem c_sFor {f : GG} : sFor f gi a ρ = (gi ρ).bind fun x => forLoop f a x.1 x.2 := (rfl)
@[simp] theorem c_sPub : sPub i a ρ = (match ρ[i]? with | some (.ow xs) => a (ρ.set i (.fz (.lst none xs))) | _ => .stuck) := (rfl)
@[simp] theorem sl_le {n : Nat} (h : n ≤ 16777216) : n ≤ sizeLine := by rw [sizeLine_eq]; exact h
@[simp] theorem c_eCallB {k : Nat} : eCallB m k ga ρ = (if ownAt ρ k = true then (ga ρ).bind fun a => boxCall m k a.1 a.2 else .stuck) := (rfl)
end
theorem fnV_eq {n : Nat} {pn : Nat → Bool} {g : GS} {ss : List SV} (h : pinned pn ss = true) : fnV n pn g ss = ((g (ss ++ List.replicate (n - ss.length) .un)).mapE fun e => (e.1, outs ss e.2)).bind fun o => match o with
  | .nx ρ => .ret (.non, outs ss ρ)
  | .rt v ρ => .ret (v, outs ss ρ)
  | _ => .stuck := by unfold fnV; rw [if_pos h] <;> rfl
end VL

set_option Elab.async false
set_option linter.all false
set_option maxRecDepth 100000
set_option maxHeartbeats 1000000
/-! VL, part 19: comprehensions without effects; the law's comparison. -/
namespace VL
open PySem PySem.Spec PyProof.Rows L2

/-! ### which built-in class is which -/
@[simp] theorem kb_NoneType_bool : kitB "NoneType" "bool" = some false := by decide +kernel
@[simp] theorem kb_NoneType_int : kitB "NoneType" "int" = some false := by decide +kernel
@[simp] theorem kb_NoneType_str : kitB "NoneType" "str" = some false := by decide +kernel
@[simp] theorem kb_NoneType_tuple : kitB "NoneType" "tuple" = some false := by decide +kernel
@[simp] theorem kb_NoneType_list : kitB "NoneType" "list" = some false := by decide +kernel
@[simp] theorem kb_NoneType_dict : kitB "NoneType" "dict" = some false := by decide +kernel
@[simp] theorem kb_bool_bool : kitB "bool" "bool" = some true := by decide +kernel
@[simp] theorem kb_bool_int : kitB "bool" "int" = some true := by decide +kernel
@[simp] theorem kb_bool_str : kitB "bool" "str" = some false := by decide +kernel
@[simp] theorem kb_bool_tuple : kitB "bool" "tuple" = some false := by decide +kernel
@[simp] theorem kb_bool_list : kitB "bool" "list" = some false := by decide +kernel
@[simp] theorem kb_bool_dict : kitB "bool" "dict" = some false := by decide +kernel
@[simp] theorem kb_int_bool : kitB "int" "bool" = some false := by decide +kernel
@[simp] theorem kb_int_int : kitB "int" "int" = some true := by decide +kernel
@[simp] theorem kb_int_str : kitB "int" "str" = some false := by decide +kernel
@[simp] theorem kb_int_tuple : kitB "int" "tuple" = some false := by decide +kernel
@[simp] theorem kb_int_list : kitB "int" "list" = some false := by decide +kernel
@[simp] theorem kb_int_dict : kitB "int" "dict" = some false := by decide +kernel
@[simp] theorem kb_str_bool : kitB "str" "bool" = some false := by decide +kernel
@[simp] theorem kb_str_int : kitB "str" "int" = some false := by decide +kernel
@[simp] theorem kb_str_str : kitB "str" "str" = some true := by decide +kernel
@[simp] theorem kb_str_tuple : kitB "str" "tuple" = some false := by decide +kernel
@[simp] theorem kb_str_list : kitB "str" "list" = some false := by decide +kernel
@[simp] theorem kb_str_dict : kitB "str" "dict" = some false := by decide +kernel
@[simp] theorem kb_tuple_bool : kitB "tuple" "bool" = some false := by decide +kernel
@[simp] theorem kb_tuple_int : kitB "tuple" "int" = some false := by decide +kernel
@[simp] theorem kb_tuple_str : kitB "tuple" "str" = some false := by decide +kernel
@[simp] theorem kb_tuple_tuple : kitB "tuple" "tuple" = some true := by decide +kernel
@[simp] theorem kb_tuple_list : kitB "tuple" "list" = some false := by decide +kernel
@[simp] theorem kb_tuple_dict : kitB "tuple" "dict" = some false := by decide +kernel
@[simp] theorem kb_list_bool : kitB "list" "bool" = some false := by decide +kernel
@[simp] theorem kb_list_int : kitB "list" "int" = some false := by decide +kernel
@[simp] theorem kb_list_str : kitB "list" "str" = some false := by decide +kernel
@[simp] theorem kb_list_tuple : kitB "list" "tuple" = some false := by decide +kernel
@[simp] theorem kb_list_list : kitB "list" "list" = some true := by decide +kernel
@[simp] theorem kb_list_dict : kitB "list" "dict" = some false := by decide +kernel
@[simp] theorem kb_dict_bool : kitB "dict" "bool" = some false := by decide +kernel
@[simp] theorem kb_dict_int : kitB "dict" "int" = some false := by decide +kernel
@[simp] theorem kb_dict_str : kitB "dict" "str" = some false := by decide +kernel
@[simp] theorem kb_dict_tuple : kitB "dict" "tuple" = some false := by decide +kernel
@[simp] theorem kb_dict_list : kitB "dict" "list" = some false := by decide +kernel
@[simp] theorem kb_dict_dict : kitB "dict" "dict" = some true := by decide +kernel
theorem lcLoop_pure {i : Nat} {gt : GT} {ge : GE} {p : PV → Bool} {f : PV → PV} {ρ : Env'} : ∀ (xs : List PV) (ρ1 : Env'), (ρ1 = ρ ∨ ∃ y, ρ1 = ρ.set i (.fz y)) →
    (∀ x ∈ xs, gt (ρ.set i (.fz x)) = .ret (p x, ρ.set i (.fz x)) ∧ (p x = true → ge (ρ.set i (.fz x)) = .ret (f x, ρ.set i (.fz x)))) →
    ∃ ρ', (ρ' = ρ ∨ ∃ y, ρ' = ρ.set i (.fz y)) ∧ lcLoop [i] (gN i) gt ge xs ρ1 = .ret ((xs.filter p).map f, ρ')
  | [], ρ1, h, _ => ⟨ρ1, h, rfl⟩
  | x :: xs, ρ1, h, hx => by
    have e : gN i x (wipeE ρ1 [i]) = some (ρ.set i (.fz x)) := by
      unfold gN wipeE wipeE
      rcases h with rfl | ⟨y, rfl⟩
      · rw [List.set_set]
      · rw [List.set_set, List.set_set]
    obtain ⟨h1, h2⟩ := hx x List.mem_cons_self
    obtain ⟨ρ', a, b⟩ := lcLoop_pure xs (ρ.set i (.fz x)) (.inr ⟨x, rfl⟩) fun y hy => hx y (List.mem_cons_of_mem _ hy)
    refine ⟨ρ', a, ?_⟩
    unfold lcLoop
    rw [e]
    simp only [h1, Wp.ret_bind]
    cases hp : p x with
    | true =>
      simp only [if_true, h2 hp, Wp.ret_bind, b, List.filter_cons, hp, List.map_cons]
    | false =>
      simp only [Bool.false_eq_true, if_false, b, List.filter_cons, hp]
theorem backE_one {i : Nat} {ρ ρ' : Env'} (h : ρ' = ρ ∨ ∃ y, ρ' = ρ.set i (.fz y)) (ho : ownAt ρ i = false) : backE ρ' ρ [i] = ρ := by
  unfold backE backE
  cases e : ρ[i]? with
  | none =>
    have hl : ρ.length ≤ i := by rwa [List.getElem?_eq_none_iff] at e
    rcases h with rfl | ⟨y, rfl⟩
    · rw [List.set_eq_of_length_le hl]
    · rw [List.set_set, List.set_eq_of_length_le hl]
  | some s =>
    have hi : i < ρ.length := (List.getElem?_eq_some_iff.mp e).1
    have es : ρ[i] = s := (List.getElem?_eq_some_iff.mp e).2
    have key : (match some s with | some (.fz x) => SV.fz x | _ => .un) = s := by
      cases s with
      | un => rfl
      | fz v => rfl
      | ow xs => unfold ownAt at ho; rw [e] at ho; cases ho
      | bx n => unfold ownAt at ho; rw [e] at ho; cases ho
    have back : ρ.set i s = ρ := by rw [← es]; exact List.set_getElem_self hi
    rcases h with rfl | ⟨y, rfl⟩
    · exact (congrArg (ρ'.set i) key).trans back
    · rw [List.set_set]
      exact (congrArg (ρ.set i) key).trans back
/-- a comprehension over i without effects -/
theorem lLc_pure {i : Nat} {gi : GI} {gt : GT} {ge : GE} {ρ : Env'} {xs : List PV} (p : PV → Bool) (f : PV → PV) (hi : gi ρ = .ret (xs, ρ)) (hz : xs.length ≤ sizeLine) (ho : ownAt ρ i = false)
    (hx : ∀ x ∈ xs, gt (ρ.set i (.fz x)) = .ret (p x, ρ.set i (.fz x)) ∧ (p x = true → ge (ρ.set i (.fz x)) = .ret (f x, ρ.set i (.fz x)))) : lLc [i] gi (gN i) gt ge ρ = .ret ((xs.filter p).map f, ρ) := by
  obtain ⟨ρ', a, b⟩ := lcLoop_pure (p := p) (f := f) xs ρ (.inl rfl) hx
  unfold lLc
  rw [hi]
  simp only [Wp.ret_bind]
  have fr : frozenAt ρ [i] = true := by unfold frozenAt; simp [ho]
  rw [if_pos ⟨hz, fr⟩, b]
  simp only [noEx_ret, Wp.ret_bind]
  rw [backE_one a ho]
theorem filter_none {α : Type} {p : α → Bool} : ∀ {xs : List α}, (∀ x ∈ xs, p x = false) → xs.filter p = []
  | [], _ => rfl
  | x :: xs, h => by rw [List.filter_cons, h x List.mem_cons_self]; exact filter_none fun y hy => h y (List.mem_cons_of_mem _ hy)
theorem filter_all {α : Type} {p : α → Bool} : ∀ {xs : List α}, (∀ x ∈ xs, p x = true) → xs.filter p = xs
  | [], _ => rfl
  | x :: xs, h => by rw [List.filter_cons, h x List.mem_cons_self]; exact congrArg (x :: ·) (filter_all fun y hy => h y (List.mem_cons_of_mem _ hy))
/-- .. as a map -/
theorem lLc_map {i : Nat} {gi : GI} {ge : GE} {ρ : Env'} {xs : List PV} (f : PV → PV) (hi : gi ρ = .ret (xs, ρ)) (hz : xs.length ≤ sizeLine) (ho : ownAt ρ i = false)
    (hx : ∀ x ∈ xs, ge (ρ.set i (.fz x)) = .ret (f x, ρ.set i (.fz x))) : lLc [i] gi (gN i) gYes ge ρ = .ret (xs.map f, ρ) := by
  have q := lLc_pure (gt := gYes) (ge := ge) (fun _ => true) f hi hz ho fun x hm => ⟨rfl, fun _ => hx x hm⟩
  rw [q, filter_all fun _ _ => rfl]

/-! ### the law's comparison, the same in all laws -/
def bSame (m : GF) : GS := sSeq (sIf (gOr (gBl (eOp2 pIs (eVar 1) (eC .non))) (gVal (eOp1 (pIsi "bool") (eVar 1)))) (sRet (eIf (gBl (eOp2 pIs (eVar 1) (eC .non))) (eOp2 pIs (eVar 0) (eC .non)) (eAnd (eOp1 (pIsi "bool") (eVar 0)) (eOp2 pEq (eOp2 pIs (eVar 0) (eC (.bl true))) (eOp2 pIs (eVar 1) (eC (.bl true))))))) (sNil)) (sSeq (sIf (gVal (eOp1 (pIsi "int") (eVar 1))) (sRet (eAnd (eOp1 (pIsi "int") (eVar 0)) (eAnd (eNot (eOp1 (pIsi "bool") (eVar 0))) (eOp2 pEq (eOp2 pSub (eOp1 pInt (eVar 0)) (eVar 1)) (eC (.int 0)))))) (sNil)) (sSeq (sIf (gVal (eOp1 (pIsi "str") (eVar 1))) (sRet (eAnd (eOp1 (pIsi "str") (eVar 0)) (eAnd (eOp2 pEq (eOp1 pLen (eVar 0)) (eOp1 pLen (eVar 1))) (eOp2 pEq (eLst (lLc [2] (iRng (eOp1 pLen (eVar 1))) (gN 2) (gBl (eOp2 pNe (eSl pSl (eVar 0) (oSome (eVar 2)) (oSome (eOp2 pAdd (eVar 2) (eC (.int 1))))) (eOp2 pIx (eVar 1) (eVar 2)))) (eVar 2))) (eLst (lDisp (aNil))))))) (sNil)) (sSeq (sIf (gOr (gBl (eOp2 pNe (eOp1 (pIsi "list") (eVar 0)) (eOp1 (pIsi "list") (eVar 1)))) (gBl (eOp2 pNe (eOp1 (pIsi "tuple") (eVar 0)) (eOp1 (pIsi "tuple") (eVar 1))))) (sRet (eC (.bl false))) (sNil)) (sRet (eAnd (eOp2 pEq (eOp1 pLen (eVar 0)) (eOp1 pLen (eVar 1))) (eOp2 pEq (eLst (lLc [2] (iRng (eOp1 pLen (eVar 1))) (gN 2) (gNot (gVal (eCall m (aCons (eOp2 pIx (eVar 0) (eVar 2)) (aCons (eOp2 pIx (eVar 1) (eVar 2)) (aNil)))))) (eVar 2))) (eLst (lDisp (aNil)))))))))
def mSame : Nat → GF
  | 0 => fNo
  | n + 1 => fnV 3 noPin (bSame (mSame n))
/-- both are the same tree, tags apart -/
inductive Sm : Nat → PV → PV → Prop
  | non {n} : Sm (n + 1) .non .non
  | bl {n} (b : Bool) : Sm (n + 1) (.bl b) (.bl b)
  | int {n} (i : Int) : Sm (n + 1) (.int i) (.int i)
  | str {n} (x : Str) (h : x.length ≤ sizeLine) : Sm (n + 1) (.str x) (.str x)
  | tup {n} {xs ys : List PV} (hl : xs.length = ys.length) (hz : xs.length ≤ sizeLine) (h : ∀ (i : Nat) (x y : PV), xs[i]? = some x → ys[i]? = some y → Sm n x y) : Sm (n + 1) (.tup xs) (.tup ys)
  | lst {n} {g g' : Option Addr} {xs ys : List PV} (hl : xs.length = ys.length) (hz : xs.length ≤ sizeLine) (h : ∀ (i : Nat) (x y : PV), xs[i]? = some x → ys[i]? = some y → Sm n x y) : Sm (n + 1) (.lst g xs) (.lst g' ys)
theorem eqB_nil : eqB (.lst none []) (.lst none []) = some true := by decide +kernel
@[simp] theorem pEq_nil : pEq (.lst none []) (.lst none []) = some (.bl true) := by unfold pEq; rw [eqB_nil]; rfl
theorem range_sz {n : Nat} (h : n ≤ sizeLine) : -4611686018427387904 ≤ (n : Int) ∧ (n : Int) < 4611686018427387904 := by
  rw [sizeLine_eq] at h
  omega
/-! ### texts by their signs -/
abbrev S (l : List Nat) : Str := ⟨l.toArray⟩
theorem S_of (z : Str) : z = S z.cps.toList := rfl
theorem S_len (l : List Nat) : (S l).length = l.length := by simp [S, Str.length]
theorem S_list (l : List Nat) : (S l).cps.toList = l := rfl
theorem S_inj {a b : List Nat} (h : S a = S b) : a = b := congrArg (fun z : Str => z.cps.toList) h
theorem S_append (a b : List Nat) : S a ++ S b = S (a ++ b) := by
  show (⟨a.toArray ++ b.toArray⟩ : Str) = ⟨(a ++ b).toArray⟩
  rw [List.append_toArray]
theorem slice_nat (l : List Nat) {a b : Nat} (hab : a ≤ b) (hb : b ≤ l.length) : Txt.slice (S l) (some (a : Int)) (some (b : Int)) = S ((l.drop a).take (b - a)) :=
  StrLaws.sliceText_nat (S l) hab (by rw [S_len]; exact hb)
theorem slice_to (l : List Nat) {b : Nat} (hb : b ≤ l.length) : Txt.slice (S l) none (some (b : Int)) = S (l.take b) := by
  have q := StrLaws.sliceText_to (x := S l) (j := (b : Int)) ⟨by omega, by rw [S_list]; omega⟩
  have e : ((b : Int) - 0).toNat = b := by omega
  rw [e] at q
  exact q
theorem slice_from (l : List Nat) {a : Nat} (ha : a ≤ l.length) : Txt.slice (S l) (some (a : Int)) none = S (l.drop a) := by
  have q := StrLaws.sliceText_from (x := S l) (i := (a : Int)) ⟨by omega, by rw [S_list]; omega⟩
  rw [S_list] at q
  have e1 : ((a : Int)).toNat = a := by omega
  have e2 : ((l.length : Int) - (a : Int)).toNat = l.length - a := by omega
  rw [e1, e2, List.take_of_length_le (by rw [List.length_drop]; omega)] at q
  exact q
theorem slice_neg1 (l : List Nat) (h : 1 ≤ l.length) : Txt.slice (S l) none (some (-1)) = S (l.take (l.length - 1)) := by
  have q := StrLaws.sliceText_neg_hi (S l) none (j := -1) (by omega) (by rw [S_len]; omega)
  have e : (-1 : Int) + ((S l).length : Int) = ((l.length - 1 : Nat) : Int) := by rw [S_len]; omega
  rw [e] at q
  exact q.trans (slice_to l (by omega))
theorem slice_one {z : Str} {k : Nat} {d : Nat} (h : z.cps.toList[k]? = some d) (hz : z.length ≤ sizeLine) : pSl (.str z) (some k) (some (k + 1 : Int)) = some (.str ⟨#[d]⟩) := by
  show (if z.length ≤ sizeLine then some (PV.str (Txt.slice z (some k) (some (k + 1 : Int)))) else none) = _
  rw [if_pos hz]
  have hk := (List.getElem?_eq_some_iff.mp h)
  obtain ⟨hk, hd⟩ := hk
  have q := slice_nat z.cps.toList (a := k) (b := k + 1) (by omega) (by omega)
  have e : ((k + 1 : Nat) : Int) = (k : Int) + 1 := by omega
  rw [e] at q
  have q' : Txt.slice z (some (k : Int)) (some ((k : Int) + 1)) = S ((z.cps.toList.drop k).take (k + 1 - k)) := q
  rw [q', show k + 1 - k = 1 from by omega, List.drop_eq_getElem_cons hk, hd]
  rfl
theorem iRange_len {n : Nat} (h : n ≤ sizeLine) : iRange (.int n) = some ((List.range n).map fun (k : Nat) => PV.int k) := by
  have r := range_sz h
  unfold iRange
  dsimp only
  rw [if_pos (by omega), Int.toNat_natCast]
theorem mem_range_int {n : Nat} {y : PV} (h : y ∈ (List.range n).map fun (k : Nat) => PV.int k) : ∃ k : Nat, k < n ∧ y = .int k := by
  obtain ⟨k, h1, rfl⟩ := List.mem_map.mp h
  exact ⟨k, List.mem_range.mp h1, rfl⟩
theorem atI_nat' {α : Type} {xs : List α} {k : Nat} {x : α} (h : xs[k]? = some x) : atI xs (k : Int) = some x := by
  have hk : k < xs.length := (List.getElem?_eq_some_iff.mp h).1
  unfold atI ixN
  rw [if_pos (by omega), if_pos (by omega)]
  simpa using h
theorem atI_opt {α : Type} (xs : List α) (k : Nat) : atI xs (k : Int) = xs[k]? := by
  cases h : xs[k]? with
  | some x => exact atI_nat' h
  | none =>
    have hk : xs.length ≤ k := by rwa [List.getElem?_eq_none_iff] at h
    unfold atI ixN
    rw [if_pos (by omega), if_neg (by omega)]
    rfl
theorem same_seq {m : GF} {i : Nat} {xs ys : List PV} {a b : PV} (hl : xs.length = ys.length) (hz : xs.length ≤ sizeLine) (ha : ∀ k : Nat, pIx a (.int k) = xs[k]?) (hb : ∀ k : Nat, pIx b (.int k) = ys[k]?) (hlen : pLen b = some (.int ys.length))
    (h : ∀ (i : Nat) (x y : PV), xs[i]? = some x → ys[i]? = some y → m [.fz x, .fz y] = .ret (.bl true, [.un, .un])) :
    lLc [2] (iRng (eOp1 pLen (eVar 1))) (gN 2) (gNot (gVal (eCall m (aCons (eOp2 pIx (eVar 0) (eVar 2)) (aCons (eOp2 pIx (eVar 1) (eVar 2)) aNil))))) (eVar 2) [.fz a, .fz b, .un] = .ret ([], [.fz a, .fz b, .un]) := by
  have q := lLc_pure (i := 2) (ρ := [.fz a, .fz b, .un]) (gi := iRng (eOp1 pLen (eVar 1))) (gt := gNot (gVal (eCall m (aCons (eOp2 pIx (eVar 0) (eVar 2)) (aCons (eOp2 pIx (eVar 1) (eVar 2)) aNil))))) (ge := eVar 2)
    (xs := (List.range ys.length).map fun (k : Nat) => PV.int k) (fun _ => false) id (by simp [hlen, iRange_len (hl ▸ hz)]) (by simpa using hl ▸ hz) rfl (fun y hy => ⟨?_, fun z => nomatch z⟩)
  · rw [q, filter_none fun _ _ => rfl]
    rfl
  · obtain ⟨k, hk, rfl⟩ := mem_range_int hy
    have hkx : k < xs.length := by omega
    have e := h k xs[k] ys[k] (List.getElem?_eq_getElem hkx) (List.getElem?_eq_getElem hk)
    simp [ha, hb, List.getElem?_eq_getElem hkx, List.getElem?_eq_getElem hk, fzs, e, truth]
theorem same_ok : ∀ (n : Nat) (a b : PV), Sm n a b → mSame n [.fz a, .fz b] = .ret (.bl true, [.un, .un])
  | n + 1, _, _, .non => by
    show fnV 3 noPin _ _ = _
    rw [fnV_eq rfl]
    simp [bSame, pIs, outs, SV.own]
  | n + 1, _, _, .bl b => by
    show fnV 3 noPin _ _ = _
    rw [fnV_eq rfl]
    cases b <;> simp [bSame, pIs, pIsi, isT, tyN, truth, outs, SV.own, pEq, eqB]
  | n + 1, _, _, .int i => by
    show fnV 3 noPin _ _ = _
    rw [fnV_eq rfl]
    simp [bSame, pIs, pIsi, isT, tyN, truth, outs, SV.own, pEq, eqB, pInt, pSub]
  | n + 1, _, _, .str x h => by
    show fnV 3 noPin _ _ = _
    rw [fnV_eq rfl]
    have q := lLc_pure (i := 2) (ρ := [.fz (.str x), .fz (.str x), .un]) (gi := iRng (eOp1 pLen (eVar 1))) (gt := gBl (eOp2 pNe (eSl pSl (eVar 0) (oSome (eVar 2)) (oSome (eOp2 pAdd (eVar 2) (eC (.int 1))))) (eOp2 pIx (eVar 1) (eVar 2)))) (ge := eVar 2)
      (xs := (List.range x.length).map fun (k : Nat) => PV.int k) (fun _ => false) id (by simp [pLen, h, iRange_len h]) (by simpa using h) rfl (fun y hy => ⟨?_, fun z => nomatch z⟩)
    · rw [filter_none fun _ _ => rfl] at q
      have e1 : pEq (.int x.length) (.int x.length) = some (.bl true) := by simp [pEq, eqB]
      simp [bSame, pIs, pIsi, isT, tyN, truth, outs, SV.own, pLen, q, h, e1]
    · obtain ⟨k, hk, rfl⟩ := mem_range_int hy
      have hk' : k < x.cps.toList.length := by simpa [Str.length] using hk
      have e := List.getElem?_eq_getElem hk'
      have e1 := slice_one e h
      have e2 : pIx (.str x) (.int k) = some (.str ⟨#[x.cps.toList[k]]⟩) := by
        show (if x.length ≤ sizeLine then (atI x.cps.toList k).map fun k => PV.str ⟨#[k]⟩ else none) = _
        rw [if_pos h, atI_nat' e]
        rfl
      simp [pAdd, e1, e2, pNe, eqB]
  | n + 1, _, _, @Sm.tup _ xs ys hl hz h => by
    show fnV 3 noPin _ _ = _
    rw [fnV_eq rfl]
    have q := same_seq (m := mSame n) (i := 0) (a := .tup xs) (b := .tup ys) hl hz (fun k => ?_) (fun k => ?_) rfl (fun i x y h1 h2 => same_ok n x y (h i x y h1 h2))
    · have e1 : pEq (.int ys.length) (.int ys.length) = some (.bl true) := by simp [pEq, eqB]
      have e2 : pNe (.bl false) (.bl false) = some (.bl false) := by simp [pNe, eqB]
      have e3 : pNe (.bl true) (.bl true) = some (.bl false) := by simp [pNe, eqB]
      simp [bSame, pIs, pIsi, isT, tyN, truth, outs, SV.own, pLen, q, hl, e1, e2, e3]
    · exact atI_opt xs k
    · exact atI_opt ys k
  | n + 1, _, _, @Sm.lst _ g g' xs ys hl hz h => by
    show fnV 3 noPin _ _ = _
    rw [fnV_eq rfl]
    have q := same_seq (m := mSame n) (i := 0) (a := .lst g xs) (b := .lst g' ys) hl hz (fun k => ?_) (fun k => ?_) rfl (fun i x y h1 h2 => same_ok n x y (h i x y h1 h2))
    · have e1 : pEq (.int ys.length) (.int ys.length) = some (.bl true) := by simp [pEq, eqB]
      have e2 : pNe (.bl false) (.bl false) = some (.bl false) := by simp [pNe, eqB]
      have e3 : pNe (.bl true) (.bl true) = some (.bl false) := by simp [pNe, eqB]
      simp [bSame, pIs, pIsi, isT, tyN, truth, outs, SV.own, pLen, q, hl, e1, e2, e3]
    · exact atI_opt xs k
    · exact atI_opt ys k
/-- a list that has been handed over, seen again behind the change -/
theorem veryL_run (n k : Nat) (hk : k < sizeLine) : veryL (mSame (n + 1)) (VL0 k) = .ret (.bl true, VL0 k) := by
  have e := same_ok (n + 1) _ _ (.int (n := n) 7)
  have e1 : pEq (.int ((k : Int) + 1)) (.int ((k : Int) + 1)) = some (.bl true) := by simp [pEq, eqB]
  have e2 : atI (List.replicate k PV.any ++ [PV.int 7]) (-1) = some (.int 7) := by
    unfold atI ixN
    rw [if_neg (by omega), if_pos (by simp; omega)]
    have e3 : ((-1 : Int) + ((List.replicate k PV.any ++ [PV.int 7]).length : Int)).toNat = k := by
      rw [List.length_append, List.length_replicate, List.length_singleton]
      omega
    rw [e3]
    show (List.replicate k PV.any ++ [PV.int 7])[k]? = some (.int 7)
    rw [List.getElem?_append_right (by rw [List.length_replicate]; omega), List.length_replicate, Nat.sub_self]
    rfl
  simp [veryL, VL0, pIsi, isT, tyN, pLen, pNeg, pIx, fzs, e, e1, e2]
theorem veryD_run (n : Nat) : veryD (mSame (n + 1)) VD0 = .ret (.bl true, VD0) := by
  have e := same_ok (n + 1) _ _ (.int (n := n) 7)
  have e1 : pEq (.int 1) (.int 1) = some (.bl true) := by simp [pEq, eqB]
  have e2 : eDGet (eVar 0) (eC (.str "more")) VD0 = .ret (.int 7, VD0) := by
    simp [eDGet, VD0, keyP, VL.valP]
  simp [veryD, VD0] at e2 ⊢
  simp [pIsi, isT, tyN, pLen, e1, e2, fzs, e]
theorem very7_ok (n : Nat) : Very7 (mSame (n + 1)) := ⟨fun k K E hk h => by rw [veryL_run n k hk]; exact h, fun K E h => by rw [veryD_run n]; exact h⟩
end VL

set_option Elab.async false
set_option linter.all false
set_option maxRecDepth 100000
set_option maxHeartbeats 1000000
/-! VL, part 20: new lists with a tag from their birth; blocks with a mark of their own; changes of a node; texts with fields. -/
namespace VL
open PySem PySem.Spec PyProof.Rows L2

section
variable {c : Cn} {X : Cx} {W : WX} {pn : Nat → Bool} {a b e o : Expr} {rest : List Expr} {pos p apos : Pos} {ga gb : GE} {σ σ' : St} {ρ ρ' : Env'} {F H F' H' : Hp}
/-! ### born with a tag -/
def tagL (g : Option (List PV × Env')) : Option (List PV × Env') := g
def eLstT (gl : GL) : GE := fun ρ => (gl ρ).bind fun a => .all (fun _ : Addr => True) fun q => .ret (.lst (some q) a.1, a.2)
theorem noB {p : Addr} (er : ER c F H σ ρ) (h : H p = none) : ¬ c.B p := fun b => by
  obtain ⟨o, e⟩ := er.mrk p b
  rw [h] at e
  cases e
theorem ve_lstT {gl : GL} (h : PE X e (tL c W gl)) : PE X e (tE c W (eLstT gl)) := imp_PE h fun σ H Q ⟨ρ, F, er, z⟩ =>
  ⟨ρ, F, er, (gl ρ).mono (fun r (q : ∀ k : Addr, True → OkE c σ ρ F H Q (.lst (some k) r.1, r.2)) p vs F' H' st hn hF hH no rep => by
    have f := freeze_grow st.2.sub hF hH
    refine q p trivial (.ref p) (upd F' p (.lst vs)) H' ⟨⟨st.1.ff.trans f.1, fun b o h n => ?_, st.1.th, st.1.ow⟩, freeze_er st.2 hF hH no⟩ (.lst upd_same (rep.mono f.1) (fun k z => by cases z; exact ⟨rfl, noB er hn⟩))
    obtain ⟨h1, h2⟩ := st.1.hh b o h n
    exact ⟨h1, fun z => by rw [upd_ne (ne_of_none h hn)]; exact h2 z⟩) (fun _ q => q) z⟩
def eDicT : GE := fun ρ => .all (fun _ : Addr => True) fun q => .ret (.dic (some q) [], ρ)
theorem ve_dicT {dpos : Pos} : PE X (.Dict [] [] dpos) (tE c W eDicT) := imp_PE pe_dnewK fun σ H Q ⟨ρ, F, er, z⟩ p hp => by
  have g := upd_grow (o := .dK []) er.sub hp
  exact (z p trivial) (.ref p) _ _ (g.stpE er) (.dic upd_same .nil (fun k z => by cases z; exact ⟨rfl, noB er hp⟩))
/-- a + b, new lists -/
def lAdd : PV → PV → Option (List PV)
  | .lst _ xs, .lst _ ys => if xs.length + ys.length ≤ sizeLine then some (xs ++ ys) else none
  | _, _ => none
theorem vl_add (ha : PE X a (tE c W ga)) (hb : PE X b (tE c W gb)) : PE X (.BinOp a .Add b pos) (tL c W (lOp2 lAdd ga gb)) :=
  imp_PE (pe_op op_cat ha hb) fun σ H Q ⟨ρ, F, er, z⟩ => tE_bind er z fun v ρ1 w F1 H1 st rep h1 => tE_bind st.2 h1 fun u ρ2 y F2 H2 st2 rep2 h2 => by
    have st12 := st.trans st2
    dsimp only at h2
    unfold lAdd at h2
    split at h2
    · rename_i g1 xs g2 ys
      cases rep with
      | @lst l vs _ _ hF r t =>
        cases rep2 with
        | @lst l2 ws _ _ hF2 r2 t2 =>
          by_cases hz : xs.length + ys.length ≤ sizeLine
          · rw [if_pos hz] at h2
            refine ⟨l, l2, vs, ws, rfl, rfl, st2.2.sub _ _ (st2.1.ff _ _ hF), st2.2.sub _ _ hF2, by rw [r.length, r2.length]; exact hz, fun q hq => ?_⟩
            exact laidL st12 h2 hq ((r.mono st2.1.ff).append r2)
          · rw [if_neg hz] at h2
            exact h2.elim
    · exact h2.elim

/-! ### a block with its own mark -/
/-- behind a change: what stood before and was not written, and the boxes -/
def mgS (s t : SV) : SV := match s with
  | .fz v => .fz v
  | .bx _ => (match t with | .bx n => .bx n | _ => .un)
  | _ => .un
def mgE : List SV → List SV → Nat → List Nat → List SV
  | [], _, _, _ => []
  | s :: ss, ts, i, is => (if is.contains i = true then .un else mgS s (ts.headD .un)) :: mgE ss ts.tail (i + 1) is
theorem mgE_len : ∀ (ss ts : List SV) (i : Nat) (is : List Nat), (mgE ss ts i is).length = ss.length
  | [], _, _, _ => rfl
  | s :: ss, ts, i, is => by simp only [mgE, List.length_cons, mgE_len ss]
theorem mgE_get : ∀ {ss ts : List SV} {i : Nat} {is : List Nat} {j : Nat} {s : SV}, (mgE ss ts i is)[j]? = some s → s = .un ∨ (is.contains (i + j) = false ∧ ∃ u, ss[j]? = some u ∧ s = mgS u ((ts[j]?).getD .un))
  | [], _, _, _, j, s, h => by simp [mgE] at h
  | a :: ss, ts, i, is, 0, s, h => by
    simp only [mgE, List.getElem?_cons_zero, Option.some.injEq] at h
    by_cases e : is.contains i = true
    · rw [if_pos e] at h; exact .inl h.symm
    · rw [if_neg e] at h
      refine .inr ⟨by simpa using e, a, rfl, ?_⟩
      rw [← h]
      cases ts <;> rfl
  | a :: ss, ts, i, is, j + 1, s, h => by
    simp only [mgE, List.getElem?_cons_succ] at h
    rcases mgE_get h with e | ⟨e, u, h1, h2⟩
    · exact .inl e
    · refine .inr ⟨by rw [← e]; congr 1; omega, u, h1, ?_⟩
      rw [h2]
      cases ts with
      | nil => simp
      | cons t ts => simp
theorem mgS_fz {s t : SV} {v : PV} (h : mgS s t = .fz v) : s = .fz v := by
  cases s with
  | fz u => exact h
  | bx n => cases t <;> cases h
  | _ => cases h
theorem mgS_bx {s t : SV} {n : Nat} (h : mgS s t = .bx n) : (∃ m, s = .bx m) ∧ t = .bx n := by
  cases s with
  | bx m => cases t with
    | bx k => exact ⟨⟨m, rfl⟩, h⟩
    | _ => cases h
  | _ => cases h
theorem mgS_ow {s t : SV} {xs : List PV} : mgS s t ≠ .ow xs := by
  intro h
  cases s with
  | bx m => cases t <;> cases h
  | _ => cases h
def sFrame (is : List Nat) (g : GS) : GS := fun ρ => (noE (g (ρ.map SV.er))).bind fun o => match o with
  | .nx ρ' => .ret (.nx (ρ'.map SV.er))
  | .ct ρ' => .ret (.ct (ρ'.map SV.er))
  | .bk ρ' => .ret (.bk (ρ'.map SV.er))
  | .rt v ρ' => .ret (.rt v.er (ρ'.map SV.er))
  | .th none ρ' => .ret (.nx (mgE ρ ρ' 0 is))
  | .th (some k) ρ' => .ret (.rt (.bl k) (mgE ρ ρ' 0 is))
theorem vss_frame {body : List Stmt} {is : List Nat} {g : GS} (hpn : ∀ j, j ∈ is → pn j = false) (hb : ∀ B, PSs X body (tS (c.at B) (pnOf is) W g)) : PSs X body (tS c pn W (sFrame is g)) :=
  imp_PSs (pss_any hb) fun D σ H ⟨ρ, F, er, z⟩ => by
    have pnn : ∀ i, pn i = true → pnOf is i = true := fun i h => by
      unfold pnOf
      cases e : is.contains i with
      | false => rfl
      | true => rw [hpn i (by simpa using e)] at h; cases h
    have er' : ER (c.at fun a => H a ≠ none) F H σ (ρ.map SV.er) := er.er fun p b => by
      cases e : H p with
      | none => exact absurd e b
      | some o => exact ⟨o, rfl⟩
    have out : ∀ {σ' ρ' F' H'}, StpS (c.at fun a => H a ≠ none) (pnOf is) σ (ρ.map SV.er) F H σ' ρ' F' H' → StpS c pn σ ρ F H σ' (ρ'.map SV.er) F' H' := fun {σ' ρ' F' H'} s =>
      ⟨⟨s.1.ff, fun p o h n => s.1.hh p o h fun z => n (own_er z), s.1.th, fun p h => (s.1.ow p (own_er h)).imp own_er id⟩, (by have q := s.2.1.er (B := c.B) (fun p b => (er.mrk p b).elim fun o h => s.1.th p o h); exact q), fun i h => s.2.2.1 i (pnn i h), s.2.2.2⟩
    have outT : ∀ {σ' ρ' H'}, Thw (c.at fun a => H a ≠ none) (pnOf is) σ (ρ.map SV.er) H σ' ρ' H' → StpS c pn σ ρ F H σ' (mgE ρ ρ' 0 is) F H' := fun {σ' ρ' H'} t => by
      obtain ⟨F9, er9⟩ := t.er
      have nO : ∀ p o, F p = some o → ¬ Own σ (ρ.map SV.er) p := fun p o h z => by
        rw [(Own.tracked er (own_er z)).1] at h
        cases h
      have hk : ∀ p o, H p = some o → ¬ Own σ (ρ.map SV.er) p → H' p = some o := fun p o h n => t.hh p o h n (by show H p ≠ none; rw [h]; exact fun z => nomatch z)
      have getB : ∀ {j n}, (mgE ρ ρ' 0 is)[j]? = some (.bx n) → ρ'[j]? = some (.bx n) ∧ j ∉ is := fun {j n} h => by
        rcases mgE_get h with z | ⟨e, u, h1, h2⟩
        · cases z
        · obtain ⟨_, h4⟩ := mgS_bx h2.symm
          refine ⟨?_, by simpa using e⟩
          cases q : ρ'[j]? with
          | none => rw [q] at h4; cases h4
          | some y => rw [q] at h4; exact congrArg some h4
      have own' : ∀ p, Own σ' (mgE ρ ρ' 0 is) p → Own σ' ρ' p := fun p ⟨j, s, h1, h2, h3⟩ => by
        cases s with
        | bx n => exact ⟨j, _, h1, (getB h2).1, rfl⟩
        | ow xs =>
          rcases mgE_get h2 with z | ⟨_, u, _, z⟩
          · cases z
          · exact absurd z.symm mgS_ow
        | _ => cases h3
      refine ⟨⟨Same.refl F, fun p o h n => ⟨hk p o h fun z => n (own_er z), fun z => z⟩, t.th, fun p h => (t.ow p (own' p h)).imp own_er id⟩, ⟨fun p o h => hk p o (er.sub p o h) (nO p o h), ?_, fun j o s h1 h2 => ?_, fun j k s u p h1 h2 h3 h4 h5 h6 => ?_, fun p b => (er.mrk p b).elim fun o h => t.th p o h⟩, fun i h => t.pn i (pnn i h), t.len⟩
      · rw [mgE_len, ← er.len]; exact t.len
      · cases s with
        | un => trivial
        | fz v =>
          rcases mgE_get h2 with z | ⟨e, u, h3, h4⟩
          · cases z
          · have h5 := mgS_fz h4.symm
            subst h5
            rw [Nat.zero_add] at e
            rw [t.pn j (by unfold pnOf; rw [e]; rfl)] at h1
            exact er.slot j o _ h1 h3
        | ow xs =>
          rcases mgE_get h2 with z | ⟨_, u, _, z⟩
          · cases z
          · exact absurd z.symm mgS_ow
        | bx n =>
          obtain ⟨g1, g2⟩ := getB h2
          obtain ⟨p, us, e, _, hq, r⟩ := er9.slot j o _ h1 g1
          subst e
          refine ⟨p, us, rfl, ?_, hq, r⟩
          rcases t.ow p ⟨j, _, h1, g1, rfl⟩ with z | z
          · exact (Own.tracked er (own_er z)).1
          · exact er.sub.free z
      · have bx : ∀ {j : Nat} {s : SV}, (mgE ρ ρ' 0 is)[j]? = some s → s.own = true → ∃ n, s = SV.bx n := fun {j s} h o => by
          cases s with
          | bx n => exact ⟨n, rfl⟩
          | ow xs =>
            rcases mgE_get h with z | ⟨_, u, _, z⟩
            · cases z
            · exact absurd z.symm mgS_ow
          | _ => cases o
        obtain ⟨n, rfl⟩ := bx h3 h5
        obtain ⟨m, rfl⟩ := bx h4 h6
        exact er9.dis j k _ _ p h1 h2 (getB h3).1 (getB h4).1 rfl rfl
    refine ⟨_, _, F, er', (g _).mono (fun o q => ?_) (fun _ q => q.elim) z⟩
    cases o with
    | nx ρ' => exact fun σ' F' H' s => q σ' F' H' (out s)
    | ct ρ' => exact fun σ' F' H' s => q σ' F' H' (out s)
    | bk ρ' => exact fun σ' F' H' s => q σ' F' H' (out s)
    | rt v ρ' => exact fun w σ' F' H' s rp => q w σ' F' H' (out s) (rp.er (B := c.B))
    | th k ρ' => cases k with
      | none => exact fun σ' H' t => ⟨fun _ => q σ' F H' (outT t), fun b z => nomatch z⟩
      | some k => exact fun σ' H' t => ⟨(fun z => nomatch z), fun b' z => by cases z; exact q (.bl k) σ' F H' (outT t) (.bl k)⟩

/-! ### x[..].append(y) of a tagged node -/
def thawX : SV → SV
  | .bx n => .bx n
  | .fz v => if flat v = true then .fz v else .un
  | _ => .un
theorem thawX_own {t : SV} (h : (thawX t).own = true) : t.own = true := by
  cases t with
  | bx n => rfl
  | un => cases h
  | ow xs => cases h
  | fz v =>
    unfold thawX at h
    dsimp only at h
    by_cases e : flat v = true
    · rw [if_pos e] at h; cases h
    · rw [if_neg e] at h; cases h
theorem thw_ofX {q : Addr} {vs : List V} {ob : HO} (er : ER c F H σ ρ) (nB : ¬ c.B q) (hq : F q = some (.lst vs)) : Thw c pn σ ρ H σ (ρ.map thawX) (upd H q ob) where
  hh := fun p o h n b => by rw [upd_ne (fun e => nB (by rw [← e]; exact b))]; exact h
  th := fun p o h => by
    by_cases e : p = q
    · subst e; exact ⟨_, upd_same⟩
    · exact ⟨o, by rw [upd_ne e]; exact h⟩
  ow := fun p h => .inl (own_map (fun _ => thawX_own) h)
  er := by
    have hq' : ∀ us, F q ≠ some (.tup us) := fun us z => by rw [hq] at z; cases z
    refine ⟨upd F q ob, er.map (fun p o h => ?_) (fun i o s h1 h2 h => ?_) (fun _ => thawX_own) fun p b => ?_⟩
    · by_cases e : p = q
      · subst e; rw [upd_same] at h ⊢; exact h
      · rw [upd_ne e] at h ⊢; exact er.sub p o h
    · cases s with
      | un => trivial
      | ow xs => trivial
      | bx n =>
        obtain ⟨p, us, e, f, hp, r⟩ := h
        subst e
        have ne : p ≠ q := fun z => by subst z; rw [f] at hq; cases hq
        exact ⟨p, us, rfl, by rw [upd_ne ne]; exact f, by rw [upd_ne ne]; exact hp, r⟩
      | fz v =>
        obtain ⟨w, rfl, r⟩ := h
        unfold thawX
        dsimp only
        split
        · exact ⟨w, rfl, flat_rep hq' r ‹_›⟩
        · trivial
    · by_cases e : p = q
      · subst e; exact ⟨_, upd_same⟩
      · obtain ⟨o, h⟩ := er.mrk p b; exact ⟨o, by rw [upd_ne e]; exact h⟩
  pn := fun _ _ => rfl
  len := rfl
def sAppT (g h : GE) : GS := fun ρ => (g ρ).bind fun a => match a.1 with
  | .lst (some _) xs => if xs.length < sizeLine then (h a.2).bind fun b => .ret (.th none (b.2.map thawX)) else .stuck
  | _ => .stuck
theorem vs_appT (ho : PE X o (tE c W ga)) (ha : PE X a (tE c W gb)) (hbase : attributeBase o "append" X.env (eval o X.env) = eval o X.env := by rfl)
    (hfew : ((backTo p (starEach [a] X.env)).all (fun x => !x.1) && (backToKw p (keywordEach [] X.env)).all (fun x => x.1.isSome) && decide ([a].length + ([] : List Keyword).length + (if ([] : List Keyword).isEmpty then 0 else 1) < 30)) = true := by rfl)
    (hline : (apos.endLine == p.line) = true := by rfl) (hs : starEach [a] X.env = (false, eval a X.env) :: starEach [] X.env := by rfl) (hsw : swapsWith (.Call (.Attribute o "append" apos) [a] [] p) none pos.line X.env = pure false := by rfl) :
    PS X (.Expr (.Call (.Attribute o "append" apos) [a] [] p) pos) (tS c pn W (sAppT ga gb)) :=
  imp_PS (ps_expr (pe_bm PySem.F.plainAttrs_list PySem.F.slot_list_append PySem.F.type_list_append mt_append ho (pa_cons ha pa_nil hs) hbase hfew hline hs) hsw) fun D σ H ⟨ρ, F, er, z⟩ =>
    tE_bindS er z fun v ρ1 w F1 H1 st rep h1 => by
      dsimp only at h1
      split at h1
      · rename_i q xs
        split at h1
        · rename_i hz
          cases rep with
          | @lst l vs _ _ hF r t =>
            obtain ⟨rfl, nB⟩ := t q rfl
            have hl1 := st.2.sub _ _ hF
            refine ⟨.inl ⟨rfl, _, SqL.of hl1⟩, ?_⟩
            refine tE_bindS st.2 h1 fun u ρ2 y F2 H2 st2 rep2 h3 => ?_
            have hF2 := st2.1.ff _ _ hF
            have hl2 := st2.2.sub _ _ hF2
            exact ⟨q, vs, y, rfl, rfl, hl2, by rw [r.length]; exact hz, ((show OkS c pn σ ρ2 F2 H2 D (.th none (ρ2.map thawX)) from h3) σ _ (thw_ofX st2.2 nB hF2)).1 rfl⟩
        · exact h1.elim
      · exact h1.elim

/-! ### texts with fields -/
def pFmt : PV → Option PV
  | .str y => if y.length ≤ sizeLine then some (.str y) else none
  | .int i => if i.natAbs.log2 < 1920 then some (.str (toString i)) else none
  | _ => none
def eFmt (g : GE) : GE := fun ρ => (g ρ).bind fun a => lift (pFmt a.1) a.2
theorem ve_fmt (ha : PE X a (tE c W ga)) : PE X (.FormattedValue a (-1) none pos) (tE c W (eFmt ga)) :=
  imp_PE (pe_fmt ha) fun σ H Q ⟨ρ, F, er, z⟩ => tE_bind er z fun v ρ1 w F1 H1 st rep h1 => by
    dsimp only at h1
    unfold pFmt at h1
    split at h1
    · rename_i y
      cases rep
      by_cases hz : y.length ≤ sizeLine
      · rw [if_pos hz] at h1
        exact .inl ⟨y, rfl, hz, h1 (.str y) F1 H1 st (.str y)⟩
      · rw [if_neg hz] at h1; exact h1.elim
    · rename_i i
      cases rep
      by_cases hz : i.natAbs.log2 < 1920
      · rw [if_pos hz] at h1
        exact .inr ⟨i, rfl, hz, h1 _ F1 H1 st (.str _)⟩
      · rw [if_neg hz] at h1; exact h1.elim
    · exact h1.elim
def jsGo : List GE → Str → GE
  | [], acc => fun ρ => .ret (.str acc, ρ)
  | g :: gs, acc => fun ρ => (g ρ).bind fun a => match a.1 with
    | .str y => if (acc ++ y).length ≤ sizeLine then jsGo gs (acc ++ y) a.2 else .stuck
    | _ => .stuck
def eJs (gs : List GE) : GE := jsGo gs Str.empty
theorem js_run : ∀ (gs : List GE) (acc : Str) {σ : St} {ρ : Env'} {F H : Hp} {Q : VK}, ER c F H σ ρ → (jsGo gs acc ρ).run (OkE c σ ρ F H Q) (ErE c W σ ρ F H) → tJs (gs.map (tE c W)) acc σ H fun out H1 => Q (.str out) H1
  | [], acc, σ, ρ, F, H, Q, er, z => z (.str acc) F H (StpE.refl er) (.str acc)
  | g :: gs, acc, σ, ρ, F, H, Q, er, z => tE_bind er z fun v ρ1 w F1 H1 st rep h1 => by
    dsimp only at h1
    split at h1
    · rename_i y
      cases rep
      split at h1
      · rename_i hz
        exact ⟨y, rfl, hz, js_run gs (acc ++ y) st.2 ((jsGo gs (acc ++ y) ρ1).mono (fun r q => OkE.step st q) (fun _ q => q) h1)⟩
      · exact h1.elim
    · exact h1.elim
theorem ve_js {v1 v2 : Expr} {es : List Expr} {gs : List GE} (h : PJ X (v1 :: v2 :: es) (gs.map (tE c W))) : PE X (.JoinedStr (v1 :: v2 :: es) pos) (tE c W (eJs gs)) :=
  imp_PE (pe_joined h) fun σ H Q ⟨ρ, F, er, z⟩ => js_run gs Str.empty er z
theorem vj_nil : PJ X [] (([] : List GE).map (tE c W)) := .nil
theorem vj_cons {es : List Expr} {gs : List GE} (ha : PE X a (tE c W ga)) (r : PJ X es (gs.map (tE c W))) : PJ X (a :: es) ((ga :: gs).map (tE c W)) := .cons ha r
@[simp] theorem c_eFmt {ρ : Env'} : eFmt ga ρ = (ga ρ).bind fun a => lift (pFmt a.1) a.2 := (rfl)
@[simp] theorem c_lOp2 {f : PV → PV → Option (List PV)} {ρ : Env'} : lOp2 f ga gb ρ = (ga ρ).bind fun a => (gb a.2).bind fun b => lift' (f a.1 b.1) b.2 := (rfl)
@[simp] theorem c_jsNil {acc : Str} {ρ : Env'} : jsGo [] acc ρ = .ret (.str acc, ρ) := (rfl)
@[simp] theorem c_jsCons {gs : List GE} {acc : Str} {ρ : Env'} : jsGo (ga :: gs) acc ρ = (ga ρ).bind fun a => match a.1 with
    | .str y => if (acc ++ y).length ≤ sizeLine then jsGo gs (acc ++ y) a.2 else .stuck
    | _ => .stuck := (rfl)
end
section
variable {c : Cn} {X : Cx} {W : WX} {pn : Nat → Bool}
variable {elt tg iter : Expr} {ifs : List Expr} {scope : Scope} {own : List (Str × Nat)} {is : List Nat} {pos spos py : Pos} {gi : GI} {g : TG} {f : GG} {gt : GT} {ge : GE} {i : Nat} {y : Str}
theorem tL_tag {gl : GL} {σ : St} {H : Hp} {Q : VK} (z : tE c W (eLstT gl) σ H Q) : tL c W gl σ H Q := by
  obtain ⟨ρ, F, er, z⟩ := z
  exact ⟨ρ, F, er, (gl ρ).mono (fun r (q : ∀ k : Addr, True → OkE c σ ρ F H Q (.lst (some k) r.1, r.2)) p vs F' H' st hn hF hH no rep => by
    have f := freeze_grow st.2.sub hF hH
    refine q p trivial (.ref p) (upd F' p (.lst vs)) H' ⟨⟨st.1.ff.trans f.1, fun b o h n => ?_, st.1.th, st.1.ow⟩, freeze_er st.2 hF hH no⟩ (.lst upd_same (rep.mono f.1) (fun k z => by cases z; exact ⟨rfl, noB er hn⟩))
    obtain ⟨h1, h2⟩ := st.1.hh b o h n
    exact ⟨h1, fun z => by rw [upd_ne (ne_of_none h hn)]; exact h2 z⟩) (fun _ q => q) z⟩
theorem vs_setLcT (hc : X.calm = true) (hN : X.N.Nodup) (hy : X.N[i]? = some y) (hyl : X.env.scope.names.lookup y = some .local) (hp : pn i = false)
    (hsw : swapsWith (.ListComp elt [⟨tg, iter, ifs, 0⟩] scope pos) (some (.Name y py)) spos.line X.env = pure true) (hi : PI X tg iter (tI c W gi)) (ok : BlkOk X.N X.env.scope scope own)
    (hg : ∀ (s : Shared) (H : Hp) (C : Addr) (cl : List (Str × Addr)) (fp : List Addr), PG (X.blk s H scope (compEnvC scope cl C X.env) fp) tg g) (hgf : TgOk c is g f)
    (ht : ∀ (s : Shared) (H : Hp) (C : Addr) (cl : List (Str × Addr)) (fp : List Addr), PTs (X.blk s H scope (compEnvC scope cl C X.env) fp) ifs (tT c W0 gt))
    (he : ∀ (s : Shared) (H : Hp) (C : Addr) (cl : List (Str × Addr)) (fp : List Addr), PE (X.blk s H scope (compEnvC scope cl C X.env) fp) elt (tE c W0 ge)) (his : own.map (·.2) = is := by rfl) (hs : ∀ x, foldedSetIterable iter X.env x = pure x := by intro _; rfl) :
    PS X (.Assign [.Name y py] (.ListComp elt [⟨tg, iter, ifs, 0⟩] scope pos) spos) (tS c pn W (sSet i (eLstT (lLc is gi f gt ge)))) := by
  subst his
  exact imp_PS (ps_setLc hc hN hy hyl hsw hi ok hg ht he hs) fun D σ H ⟨ρ, F, er, z⟩ => lc_read hgf (tL_tag (tE_bindS er z fun v ρ1 w F1 H1 st rep h1 => h1 _ F1 H1
    ⟨(Stp.refl F1 H1 _).less fun p q => own_set q, st.2.set rep, (fun j hj => List.getElem?_set_ne (fun q => by subst q; rw [hp] at hj; cases hj)), List.length_set⟩))
end
end VL

set_option Elab.async false
set_option linter.all false
set_option maxRecDepth 100000
set_option maxHeartbeats 1000000
/-! VL, part 21: plain help. -/
namespace VL
open PySem PySem.Spec PyProof.Rows L2
theorem log2_lt' {n m : Nat} (h : n < 2 ^ m) (hm : 0 < m) : n.log2 < m := by
  by_cases h0 : n = 0
  · subst h0; rw [show Nat.log2 0 = 0 from by decide]; exact hm
  · exact (Nat.log2_lt h0).mpr h
theorem mul_ok {i j : Int} (hi : i.natAbs < 2 ^ 64) (hj : j.natAbs < 2 ^ 64) : pMul (.int i) (.int j) = some (.int (i * j)) := by
  have h1 := log2_lt' hi (by decide)
  have h2 := log2_lt' hj (by decide)
  unfold pMul
  dsimp only
  rw [if_pos (by omega)]
theorem pow_ok {i : Int} {j : Nat} (hj : j ≤ 1000000) (hi : i.natAbs < 18446744073709551616) : pPow (.int i) (.int j) = some (.int (i ^ j)) := by
  unfold pPow
  dsimp only
  rw [if_pos ⟨by omega, by omega, by rw [show (2 : Nat) ^ 64 = 18446744073709551616 from by decide]; exact hi⟩, Int.toNat_natCast]
theorem mod_ok {i j : Int} (hj : 0 < j) : pMod (.int i) (.int j) = some (.int (i % j)) := by
  unfold pMod; dsimp only; rw [if_pos hj]
theorem fdiv_ok {i j : Int} (hj : 0 < j) (h : j < 1073741824) : pFdiv (.int i) (.int j) = some (.int (i / j)) := by
  unfold pFdiv; dsimp only; rw [if_pos ⟨hj, h⟩]
theorem pEq_int (a b : Int) : pEq (.int a) (.int b) = some (.bl (decide (a = b))) := by simp [pEq, eqB]
theorem pNe_int (a b : Int) : pNe (.int a) (.int b) = some (.bl (!decide (a = b))) := by simp [pNe, eqB]
theorem blsOf_map (bs : List Bool) : blsOf (bs.map PV.bl) = some bs := by
  induction bs with
  | nil => rfl
  | cons b bs ih => show (blsOf (bs.map PV.bl)).map (fun ns => b :: ns) = _; rw [ih]; rfl
theorem pAll_bl (xs : List PV) (f : PV → Bool) : pAll (.lst none (xs.map fun x => PV.bl (f x))) = some (.bl (xs.all f)) := by
  have e : (xs.map fun x => PV.bl (f x)) = (xs.map f).map PV.bl := by rw [List.map_map]; rfl
  rw [e]
  show (blsOf _).map _ = _
  rw [blsOf_map]
  simp [List.all_map]
theorem S_nil : (PySem.Str.ofString "") = S [] := by decide +kernel
theorem S_n : (PySem.Str.ofString "\n") = S [10] := by decide +kernel
theorem join_S (ls : List (List Nat)) : Txt.join (S []) (ls.map S) = S ls.flatten := by
  show Builtin.Str.glued _ _ = _
  rw [StrLaws.glued_eq_join]
  induction ls with
  | nil => rfl
  | cons l ls ih =>
    cases ls with
    | nil => show S l = S (l ++ []); rw [List.append_nil]
    | cons l2 ls =>
      show S l ++ S [] ++ Str.join (S []) ((l2 :: ls).map S) = _
      rw [ih, S_append, S_append, List.append_nil]
      rfl
theorem strsOf_S (ls : List (List Nat)) : strsOf (ls.map fun l => PV.str (S l)) = some (ls.map S) := by
  induction ls with
  | nil => rfl
  | cons l ls ih => show (strsOf (ls.map fun l => PV.str (S l))).map (fun ns => S l :: ns) = _; rw [ih]; rfl
theorem sum_S (ls : List (List Nat)) : ((ls.map S).map (·.length)).sum = ls.flatten.length := by
  induction ls with
  | nil => rfl
  | cons l ls ih => simp only [List.map_cons, List.sum_cons, ih, List.flatten_cons, List.length_append, S_len]
theorem pJoin_S (ls : List (List Nat)) (h : ls.flatten.length ≤ 16777216) : pJoin (.str (S [])) (.lst none (ls.map fun l => PV.str (S l))) = some (.str (S ls.flatten)) := by
  show (strsOf _).bind _ = _
  rw [strsOf_S]
  simp only [Option.bind_some]
  rw [sum_S, if_pos (by rw [S_len]; simpa using h), join_S]
theorem pAdd_S (a b : List Nat) (h : a.length + b.length ≤ 16777216) : pAdd (.str (S a)) (.str (S b)) = some (.str (S (a ++ b))) := by
  have hz : (S a).length + (S b).length ≤ sizeLine := sl_le (by rw [S_len, S_len]; exact h)
  show (if (S a).length + (S b).length ≤ sizeLine then some (PV.str (S a ++ S b)) else none) = _
  rw [if_pos hz, S_append]
theorem str_inj {a b : List Nat} : (S a = S b) ↔ a = b := ⟨S_inj, fun h => by rw [h]⟩
theorem pNe_S (a b : List Nat) : pNe (.str (S a)) (.str (S b)) = some (.bl (!decide (a = b))) := by
  have : decide (S a = S b) = decide (a = b) := by simp only [str_inj]
  show some (PV.bl (!decide (S a = S b))) = _
  rw [this]
theorem pEq_S (a b : List Nat) : pEq (.str (S a)) (.str (S b)) = some (.bl (decide (a = b))) := by
  have : decide (S a = S b) = decide (a = b) := by simp only [str_inj]
  show some (PV.bl (decide (S a = S b))) = _
  rw [this]
theorem beqS (a b : List Nat) : (S a == S b) = decide (a = b) := by
  have : (S a == S b) = decide (S a = S b) := by by_cases h : S a = S b <;> simp [h]
  rw [this]
  simp only [str_inj]
theorem pvDs_strs : ∀ cs : List Nat, pvDs (cs.map fun c => PV.str (S [c])) = some (cs.map fun c => .str (S [c]))
  | [] => rfl
  | c :: cs => by
    show (pvD (.str (S [c]))).bind _ = _
    rw [pvDs_strs cs]
    rfl
theorem lay_strs : ∀ cs : List Nat, (∀ c ∈ cs, c < 128) → PyData.canLayAll0 (cs.map fun c => .str (S [c])) = true
  | [], _ => rfl
  | c :: cs, h => by
    show (PyData.canLay0 (.str (S [c])) && PyData.canLayAll0 (cs.map fun c => .str (S [c]))) = true
    rw [lay_strs cs fun x hx => h x (List.mem_cons_of_mem _ hx)]
    have := h c List.mem_cons_self
    simp [PyData.canLay0, PyData.strOk]
    omega
theorem dep_strs : ∀ cs : List Nat, PyData.depthAll (cs.map fun c => .str (S [c])) = 0
  | [] => rfl
  | c :: cs => by
    show max (PyData.depth (.str (S [c]))) (PyData.depthAll (cs.map fun c => .str (S [c]))) = 0
    rw [dep_strs cs]
    rfl
theorem eq_nil {g : Option Addr} {xs : List PV} {ds : List PyData} (h1 : pvDs xs = some ds) (h2 : PyData.canLayAll0 ds = true) (h3 : PyData.depthAll ds ≤ 63) : eqB (.lst g xs) (.lst none []) = some xs.isEmpty := by
  show eqD (.lst g xs) (.lst none []) = _
  have a : pvD (.lst g xs) = some (.list ds) := by simp [pvD, h1]
  have b : pvD (.lst none []) = some (.list []) := by simp [pvD, pvDs]
  unfold eqD
  rw [a, b]
  have c : SeqAt.shaped (.list ds) = true := by
    have e : (PyData.list ds).depth = PyData.depthAll ds + 1 := by simp [PyData.depth]
    have f : (PyData.list ds).canLay0 = true := by simp [PyData.canLay0, h2]
    unfold SeqAt.shaped
    rw [e, f, Bool.true_and]
    exact decide_eq_true (Nat.succ_le_succ h3)
  have d : SeqAt.shaped (.list []) = true := by decide +kernel
  dsimp only
  rw [if_pos ⟨c, d⟩]
  cases xs with
  | nil => simp only [pvDs] at h1; cases h1; rfl
  | cons x xs =>
    simp only [pvDs] at h1
    obtain ⟨e, _, h4⟩ := Option.bind_eq_some_iff.mp h1
    obtain ⟨es, _, rfl⟩ := Option.map_eq_some_iff.mp h4
    rfl
theorem eq_strs (cs : List Nat) (h : ∀ c ∈ cs, c < 128) : eqB (.lst none (cs.map fun c => PV.str (S [c]))) (.lst none []) = some (cs.isEmpty) := by
  rw [eq_nil (pvDs_strs cs) (lay_strs cs h) (by rw [dep_strs]; decide)]
  cases cs <;> rfl
theorem pvDs_ints : ∀ ns : List Int, pvDs (ns.map PV.int) = some (ns.map PyData.int)
  | [] => rfl
  | n :: ns => by
    show (pvD (.int n)).bind _ = _
    rw [pvDs_ints ns]
    rfl
theorem lay_ints : ∀ ns : List Int, PyData.canLayAll0 (ns.map PyData.int) = true ∧ PyData.depthAll (ns.map PyData.int) = 0
  | [] => ⟨rfl, rfl⟩
  | n :: ns => by
    obtain ⟨a, b⟩ := lay_ints ns
    constructor
    · show (PyData.canLay0 (.int n) && _) = true
      rw [a]; rfl
    · show max (PyData.depth (.int n)) _ = 0
      rw [b]; rfl
theorem eq_ints (ns : List Int) : eqB (.lst none (ns.map PV.int)) (.lst none []) = some ns.isEmpty := by
  rw [eq_nil (pvDs_ints ns) (lay_ints ns).1 (by rw [(lay_ints ns).2]; decide)]
  cases ns <;> rfl
theorem try_ret {ex : Nat → Nat → Option Bool} {hs : List Hd} {g : GS} {ρ : Env'} {o : Out} (h : g ρ = .ret o) : sTry ex hs g ρ = .ret o := by
  refine Wp.ext_run fun K E => ?_
  show (g ρ).run K _ ↔ K o
  rw [h]
  exact Iff.rfl
theorem try_raise {ex : Nat → Nat → Option Bool} {hs : List Hd} {g : GS} {ρ : Env'} {e : XE'} {v : PV} (h : g ρ = .raise e) (hp : pick ex e.1 hs = some (some v)) : sTry ex hs g ρ = .ret (.rt v e.2) := by
  refine Wp.ext_run fun K E => ?_
  show (g ρ).run K _ ↔ K _
  rw [h]
  show (match pick ex e.1 hs with | some (some v) => K (.rt v e.2) | some none => E e | none => False) ↔ K _
  rw [hp]
@[simp] theorem c_eCallK {m : GF} {π : List Nat} {ga : GA} {ρ : Env'} : eCallK m π ga ρ = (ga ρ).bind fun a => ((m (fzs (perm .non π a.1))).mapE fun e => (e.1, a.2)).bind fun r => .ret (r.1, a.2) := (rfl)
theorem perm1 (v : PV) : perm .non [0] [v] = [v] := rfl
@[simp] theorem all_bind {ι ε α β : Type} (p : ι → Prop) (f : ι → Wp ε α) (g : α → Wp ε β) : (Wp.all p f).bind g = Wp.all p fun i => (f i).bind g := (rfl)
@[simp] theorem all_run {ι ε α : Type} (p : ι → Prop) (f : ι → Wp ε α) (K : α → Prop) (E : ε → Prop) : (Wp.all p f).run K E = ∀ i, p i → (f i).run K E := (rfl)
@[simp] theorem all_mapE {ι ε ε' α : Type} (p : ι → Prop) (f : ι → Wp ε α) (g : ε → ε') : (Wp.all p f).mapE g = Wp.all p fun i => (f i).mapE g := (rfl)
theorem backE_gen {i : Nat} {ρ' ρ0 ρ1 : Env'} (h : ρ' = ρ1 ∨ ∃ y, ρ' = ρ1.set i (.fz y)) (h0 : ρ0[i]? = ρ1[i]?) (ho : ownAt ρ0 i = false) : backE ρ' ρ0 [i] = ρ1 := by
  have ho' : ownAt ρ1 i = false := by unfold ownAt at ho ⊢; rw [← h0]; exact ho
  have q := backE_one h ho'
  unfold backE backE at q ⊢
  rw [h0]
  exact q
theorem intsOf_map (ns : List Int) : intsOf (ns.map PV.int) = some ns := by
  induction ns with
  | nil => rfl
  | cons n ns ih => show (intsOf (ns.map PV.int)).map (fun ms => n :: ms) = _; rw [ih]; rfl
theorem told_len : (PySem.Str.ofString "told").length ≤ 16777216 := by decide +kernel
theorem sm_pair {n : Nat} {g g' : Option Addr} {v v' : PV} (h : Sm (n + 1) v v') : Sm (n + 2) (.lst g [.str "told", v]) (.lst g' [.str "told", v']) := by
  refine .lst rfl (sl_le (by simp)) fun i x y h1 h2 => ?_
  match i, h1, h2 with
  | 0, h1, h2 => cases h1; cases h2; exact .str _ (sl_le told_len)
  | 1, h1, h2 => cases h1; cases h2; exact h
  | i + 2, h1, h2 => cases h1
theorem sm_text {n : Nat} (l : List Nat) (h : l.length ≤ 1000000) : Sm (n + 1) (.str (S l)) (.str (S l)) := .str _ (sl_le (by rw [S_len]; omega))
theorem erL_len : ∀ xs : List PV, (erL xs).length = xs.length
  | [] => by simp [erL]
  | x :: xs => by simp [erL, erL_len xs]
end VL

set_option Elab.async false
set_option linter.all false
set_option maxRecDepth 100000
set_option maxHeartbeats 1000000
/-! VL, part 22: comprehensions and loops at large; signs and numbers of texts. -/
namespace VL
open PySem PySem.Spec PyProof.Rows L2
theorem lcLoop_gen {ii : List Nat} {f : GG} {gt : GT} {ge : GE} (C : Env' → Prop) (p : PV → Bool) (h : PV → PV) : ∀ (xs : List PV) (ρ1 : Env'), C ρ1 →
    (∀ x ∈ xs, ∀ ρ1, C ρ1 → ∃ ρ2, f x (wipeE ρ1 ii) = some ρ2 ∧ C ρ2 ∧ gt ρ2 = .ret (p x, ρ2) ∧ (p x = true → ge ρ2 = .ret (h x, ρ2))) →
    ∃ ρ', C ρ' ∧ lcLoop ii f gt ge xs ρ1 = .ret ((xs.filter p).map h, ρ')
  | [], ρ1, hC, _ => ⟨ρ1, hC, rfl⟩
  | x :: xs, ρ1, hC, hs => by
    obtain ⟨ρ2, e1, c2, e2, e3⟩ := hs x List.mem_cons_self ρ1 hC
    obtain ⟨ρ', a, b⟩ := lcLoop_gen C p h xs ρ2 c2 fun y hy => hs y (List.mem_cons_of_mem _ hy)
    refine ⟨ρ', a, ?_⟩
    unfold lcLoop
    rw [e1]
    dsimp only
    rw [e2]
    cases hp : p x with
    | true => simp only [Wp.ret_bind, if_true, e3 hp, b, List.filter_cons, hp, List.map_cons]
    | false => simp only [Wp.ret_bind, Bool.false_eq_true, if_false, b, List.filter_cons, hp]
/-- a comprehension without effects, whatever its target -/
theorem lLc_gen {ii : List Nat} {gi : GI} {f : GG} {gt : GT} {ge : GE} {ρ : Env'} {xs : List PV} (C : Env' → Prop) (p : PV → Bool) (h : PV → PV) (hi : gi ρ = .ret (xs, ρ)) (hz : xs.length ≤ sizeLine) (fr : frozenAt ρ ii = true) (hC : C ρ)
    (hs : ∀ x ∈ xs, ∀ ρ1, C ρ1 → ∃ ρ2, f x (wipeE ρ1 ii) = some ρ2 ∧ C ρ2 ∧ gt ρ2 = .ret (p x, ρ2) ∧ (p x = true → ge ρ2 = .ret (h x, ρ2))) (hb : ∀ ρ1, C ρ1 → backE ρ1 ρ ii = ρ) :
    lLc ii gi f gt ge ρ = .ret ((xs.filter p).map h, ρ) := by
  obtain ⟨ρ', a, b⟩ := lcLoop_gen (gt := gt) (ge := ge) C p h xs ρ hC hs
  unfold lLc
  rw [hi]
  simp only [Wp.ret_bind]
  rw [if_pos ⟨hz, fr⟩, b]
  simp only [noEx_ret, Wp.ret_bind]
  rw [hb _ a]
theorem lcLoop_run {ii : List Nat} {f : GG} {gt : GT} {ge : GE} {E : XE' → Prop} (C : Nat → Env' → Prop) (P : PV → Prop) (M : Nat) : ∀ (xs : List PV) (n : Nat) (ρ1 : Env') {K : List PV × Env' → Prop}, n + xs.length ≤ M → C n ρ1 →
    (∀ x ∈ xs, ∀ m ρ1, m < M → C m ρ1 → ∃ ρ2, f x (wipeE ρ1 ii) = some ρ2 ∧ gt ρ2 = .ret (true, ρ2) ∧ ∀ {K : PV × Env' → Prop} {E : XE' → Prop}, (∀ y ρ3, P y → C (m + 1) ρ3 → K (y, ρ3)) → (ge ρ2).run K E) →
    (∀ ys ρ', ys.length = xs.length → (∀ y ∈ ys, P y) → C (n + xs.length) ρ' → K (ys, ρ')) → (lcLoop ii f gt ge xs ρ1).run K E
  | [], n, ρ1, K, _, hC, _, hK => hK [] ρ1 rfl (fun _ z => nomatch z) hC
  | x :: xs, n, ρ1, K, hM, hC, hs, hK => by
    rw [List.length_cons] at hM
    obtain ⟨ρ2, e1, e2, e3⟩ := hs x List.mem_cons_self n ρ1 (by omega) hC
    unfold lcLoop
    rw [e1]
    dsimp only
    rw [e2]
    simp only [Wp.ret_bind, if_true, Wp.run_bind]
    refine e3 fun y ρ3 hy c3 => ?_
    exact lcLoop_run (K := fun r => K (y :: r.1, r.2)) C P M xs (n + 1) ρ3 (by omega) c3 (fun x hx => hs x (List.mem_cons_of_mem _ hx)) fun ys ρ' hl hP c' =>
      hK (y :: ys) ρ' (by rw [List.length_cons, hl, List.length_cons]) (fun z hz => (List.mem_cons.mp hz).elim (fun e => by rw [e]; exact hy) (hP z)) (by
        rw [List.length_cons]
        have e : n + (xs.length + 1) = n + 1 + xs.length := by omega
        rw [e]; exact c')
/-- a comprehension that draws -/
theorem lLc_run {ii : List Nat} {gi : GI} {f : GG} {gt : GT} {ge : GE} {ρ : Env'} {xs : List PV} {K : List PV × Env' → Prop} {E : XE' → Prop} (C : Nat → Env' → Prop) (P : PV → Prop) (hi : gi ρ = .ret (xs, ρ)) (hz : xs.length ≤ sizeLine) (fr : frozenAt ρ ii = true) (hC : C 0 ρ)
    (hs : ∀ x ∈ xs, ∀ m ρ1, m < xs.length → C m ρ1 → ∃ ρ2, f x (wipeE ρ1 ii) = some ρ2 ∧ gt ρ2 = .ret (true, ρ2) ∧ ∀ {K : PV × Env' → Prop} {E : XE' → Prop}, (∀ y ρ3, P y → C (m + 1) ρ3 → K (y, ρ3)) → (ge ρ2).run K E)
    (hK : ∀ ys ρ', ys.length = xs.length → (∀ y ∈ ys, P y) → C xs.length ρ' → K (ys, backE ρ' ρ ii)) : (lLc ii gi f gt ge ρ).run K E := by
  unfold lLc
  rw [hi]
  simp only [Wp.ret_bind]
  rw [if_pos ⟨hz, fr⟩]
  simp only [Wp.run_bind, noEx_run]
  exact lcLoop_run C P xs.length xs 0 ρ (by omega) hC hs fun ys ρ' hl hP c => hK ys ρ' hl hP (by rw [Nat.zero_add] at c; exact c)
/-- a loop that runs to its end -/
theorem for_run {f : GG} {g : GS} {K : Out → Prop} {E : XE' → Prop} (C : Nat → Env' → Prop) : ∀ (xs : List PV) (n : Nat) (ρ : Env'), C n ρ →
    (∀ x ∈ xs, ∀ m ρ1, C m ρ1 → m < n + xs.length → ∃ ρ2, f x ρ1 = some ρ2 ∧ ∀ {K : Out → Prop} {E : XE' → Prop}, (∀ ρ', C (m + 1) ρ' → K (.nx ρ')) → (g ρ2).run K E) →
    (∀ ρ', C (n + xs.length) ρ' → K (.nx ρ')) → (forLoop f g xs ρ).run K E
  | [], n, ρ, hC, _, hK => hK ρ hC
  | x :: xs, n, ρ, hC, hs, hK => by
    obtain ⟨ρ2, e1, e2⟩ := hs x List.mem_cons_self n ρ hC (by rw [List.length_cons]; omega)
    unfold forLoop
    rw [e1]
    simp only [Wp.run_bind]
    refine e2 (K := fun o => (match o with
        | .nx ρ2 => forLoop f g xs ρ2
        | .ct ρ2 => forLoop f g xs ρ2
        | .bk ρ2 => .ret (.nx ρ2)
        | .rt v ρ2 => .ret (.rt v ρ2)
        | .th (some b) ρ2 => .ret (.th (some b) ρ2)
        | .th none _ => .stuck : Wp XE' Out).run K E) fun ρ' c' => ?_
    exact for_run C xs (n + 1) ρ' c' (fun y hy m ρ1 hc hm => hs y (List.mem_cons_of_mem _ hy) m ρ1 hc (by rw [List.length_cons]; omega)) fun ρ'' c'' => hK ρ'' (by
      rw [List.length_cons]
      have : n + (xs.length + 1) = n + 1 + xs.length := by omega
      rw [this]; exact c'')
/-- a draw -/
theorem take_at {ρ : Env'} {j n : Nat} {m : Int} (h2 : ρ[j]? = some (.bx n)) (h0 : 0 < m) (h1 : m < 1073741824) (hn : n < 4294967296) :
    eCallB mTake j (aCons (eC (.int m)) aNil) ρ = .all (fun d : Int => 0 ≤ d ∧ d < m) fun d => .ret (.int d, ρ.set j (.bx (n + 1))) := by
  have o : ownAt ρ j = true := by unfold ownAt; rw [h2]; rfl
  rw [c_eCallB, if_pos o]
  simp only [c_aCons, c_aNil, c_eC, Wp.ret_bind]
  unfold boxCall
  rw [h2]
  have e : mTake (SV.bx n :: fzs [.int m]) = .all (fun d : Int => 0 ≤ d ∧ d < m) fun d => .ret (.int d, [.bx (n + 1), .un]) := by
    show (if 0 < m ∧ m < 1073741824 ∧ n < 4294967296 then _ else _) = _
    rw [if_pos ⟨h0, h1, hn⟩]
  dsimp only
  rw [if_pos (show (SV.bx n).own = true from rfl), e]
  rfl
/-- .. of so many as a value tells -/
theorem take_val {ρ : Env'} {j n : Nat} {m : Int} {g : GE} (hg : g ρ = .ret (.int m, ρ)) (h2 : ρ[j]? = some (.bx n)) (h0 : 0 < m) (h1 : m < 1073741824) (hn : n < 4294967296) :
    eCallB mTake j (aCons g aNil) ρ = .all (fun d : Int => 0 ≤ d ∧ d < m) fun d => .ret (.int d, ρ.set j (.bx (n + 1))) := by
  rw [← take_at h2 h0 h1 hn, c_eCallB, c_eCallB]
  simp only [c_aCons, c_aNil, c_eC, Wp.ret_bind, hg]
/-! ### a text cut at a sign -/
def cutAt (d : Nat) : List Nat → List (List Nat)
  | [] => [[]]
  | c :: cs => if c = d then [] :: cutAt d cs else match cutAt d cs with
    | p :: ps => (c :: p) :: ps
    | [] => [[c]]
def interD (d : Nat) : List (List Nat) → List Nat
  | [] => []
  | [p] => p
  | p :: ps => p ++ d :: interD d ps
theorem cutAt_ne (d : Nat) : ∀ l, cutAt d l ≠ []
  | [] => fun h => nomatch h
  | c :: cs => by
    unfold cutAt
    split
    · exact fun h => nomatch h
    · split <;> exact fun h => nomatch h
theorem inter_cutAt (d : Nat) : ∀ l, interD d (cutAt d l) = l
  | [] => rfl
  | c :: cs => by
    have ih := inter_cutAt d cs
    unfold cutAt
    split
    · rename_i e
      subst e
      cases h : cutAt c cs with
      | nil => exact absurd h (cutAt_ne c cs)
      | cons p ps => rw [h] at ih; show [] ++ c :: interD c (p :: ps) = _; rw [ih]; rfl
    · cases h : cutAt d cs with
      | nil => exact absurd h (cutAt_ne d cs)
      | cons p ps =>
        rw [h] at ih
        cases ps with
        | nil => exact congrArg (c :: ·) ih
        | cons q qs => exact congrArg (c :: ·) ih
theorem cutAt_free (d : Nat) : ∀ l, ∀ p ∈ cutAt d l, d ∉ p
  | [], p, h => by
    simp [cutAt] at h
    subst h
    exact fun z => nomatch z
  | c :: cs, p, h => by
    unfold cutAt at h
    have ih := cutAt_free d cs
    split at h
    · rcases List.mem_cons.mp h with e | e
      · subst e; exact fun z => nomatch z
      · exact ih p e
    · rename_i hc
      cases hq : cutAt d cs with
      | nil => exact absurd hq (cutAt_ne d cs)
      | cons q qs =>
        rw [hq] at h ih
        rcases List.mem_cons.mp h with e | e
        · subst e
          intro z
          rcases List.mem_cons.mp z with z | z
          · exact hc z.symm
          · exact ih q List.mem_cons_self z
        · exact ih p (List.mem_cons_of_mem _ e)
theorem cutD_one {d : Nat} : ∀ {a b x y : List Nat}, d ∉ a → d ∉ b → a ++ d :: x = b ++ d :: y → a = b ∧ x = y
  | [], [], x, y, _, _, h => by simp at h; exact ⟨rfl, h⟩
  | [], c :: b, x, y, _, hb, h => by
    simp at h
    exact absurd (by rw [h.1]; exact List.mem_cons_self) hb
  | c :: a, [], x, y, ha, _, h => by
    simp at h
    exact absurd (by rw [← h.1]; exact List.mem_cons_self) ha
  | c :: a, e :: b, x, y, ha, hb, h => by
    simp at h
    obtain ⟨h1, h2⟩ := cutD_one (fun z => ha (List.mem_cons_of_mem _ z)) (fun z => hb (List.mem_cons_of_mem _ z)) h.2
    exact ⟨by rw [h.1, h1], h2⟩
theorem interD_inj {d : Nat} : ∀ {ps qs : List (List Nat)}, (∀ p ∈ ps, d ∉ p) → (∀ p ∈ qs, d ∉ p) → ps ≠ [] → qs ≠ [] → interD d ps = interD d qs → ps = qs
  | [], _, _, _, h, _, _ => absurd rfl h
  | _ :: _, [], _, _, _, h, _ => absurd rfl h
  | [p], [q], _, _, _, _, h => by rw [show p = q from h]
  | [p], q :: r :: qs, hp, _, _, _, h => by
    have h' : p = q ++ d :: interD d (r :: qs) := h
    exact absurd (by rw [h']; simp) (hp p List.mem_cons_self)
  | p :: r :: ps, [q], _, hq, _, _, h => by
    have h' : p ++ d :: interD d (r :: ps) = q := h
    exact absurd (by rw [← h']; simp) (hq q List.mem_cons_self)
  | p :: r :: ps, q :: s :: qs, hp, hq, _, _, h => by
    obtain ⟨h1, h2⟩ := cutD_one (hp p List.mem_cons_self) (hq q List.mem_cons_self) (show p ++ d :: interD d (r :: ps) = q ++ d :: interD d (s :: qs) from h)
    rw [h1, interD_inj (fun z hz => hp z (List.mem_cons_of_mem _ hz)) (fun z hz => hq z (List.mem_cons_of_mem _ hz)) (fun z => nomatch z) (fun z => nomatch z) h2]
theorem cutAt_of {d : Nat} {ps : List (List Nat)} (hf : ∀ p ∈ ps, d ∉ p) (hn : ps ≠ []) : cutAt d (interD d ps) = ps := interD_inj (cutAt_free d _) hf (cutAt_ne d _) hn (inter_cutAt d _)
theorem cutAt_app (d : Nat) : ∀ l : List Nat, cutAt d (l ++ [d]) = cutAt d l ++ [[]]
  | [] => by simp [cutAt]
  | c :: cs => by
    rw [List.cons_append]
    unfold cutAt
    rw [cutAt_app d cs]
    split
    · rfl
    · cases h : cutAt d cs with
      | nil => exact absurd h (cutAt_ne d cs)
      | cons p ps => rfl
theorem cutAt_len (d : Nat) : ∀ l : List Nat, (cutAt d l).length ≤ l.length + 1
  | [] => by simp [cutAt]
  | c :: cs => by
    have ih := cutAt_len d cs
    unfold cutAt
    split
    · rw [List.length_cons, List.length_cons]; omega
    · cases h : cutAt d cs with
      | nil => exact absurd h (cutAt_ne d cs)
      | cons p ps => rw [h] at ih; rw [List.length_cons] at ih ⊢; rw [List.length_cons]; omega
theorem cutAt_sub (d : Nat) : ∀ l : List Nat, ∀ p ∈ cutAt d l, p.length ≤ l.length ∧ ∀ c ∈ p, c ∈ l
  | [], p, h => by
    simp [cutAt] at h
    subst h
    exact ⟨Nat.le_refl _, fun _ z => z⟩
  | c :: cs, p, h => by
    unfold cutAt at h
    have ih := cutAt_sub d cs
    split at h
    · rcases List.mem_cons.mp h with e | e
      · subst e; exact ⟨Nat.zero_le _, fun _ z => nomatch z⟩
      · exact ⟨by have := (ih p e).1; rw [List.length_cons]; omega, fun x hx => List.mem_cons_of_mem _ ((ih p e).2 x hx)⟩
    · cases hq : cutAt d cs with
      | nil => exact absurd hq (cutAt_ne d cs)
      | cons q qs =>
        rw [hq] at h ih
        rcases List.mem_cons.mp h with e | e
        · subst e
          refine ⟨by have := (ih q List.mem_cons_self).1; rw [List.length_cons, List.length_cons]; omega, fun x hx => ?_⟩
          rcases List.mem_cons.mp hx with z | z
          · rw [z]; exact List.mem_cons_self
          · exact List.mem_cons_of_mem _ ((ih q List.mem_cons_self).2 x z)
        · exact ⟨by have := (ih p (List.mem_cons_of_mem _ e)).1; rw [List.length_cons]; omega, fun x hx => List.mem_cons_of_mem _ ((ih p (List.mem_cons_of_mem _ e)).2 x hx)⟩
theorem interD_join (d : Nat) : ∀ L : List Str, Str.join (S [d]) L = S (interD d (L.map fun p => p.cps.toList))
  | [] => rfl
  | [a] => rfl
  | a :: b :: r => by
    have e := interD_join d (b :: r)
    show a ++ S [d] ++ Str.join (S [d]) (b :: r) = _
    rw [e]
    show S a.cps.toList ++ S [d] ++ S (interD d ((b :: r).map fun p => p.cps.toList)) = _
    rw [S_append, S_append]
    simp [interD]
theorem split_S (d : Nat) (l : List Nat) : (Txt.split (S l) (S [d])).map PV.str = (cutAt d l).map fun p => PV.str (S p) := by
  have key : (Txt.split (S l) (S [d])).map (fun p => p.cps.toList) = cutAt d l := by
    have q := StrLaws.join_split (S l) (S [d])
    rw [interD_join] at q
    have q' := S_inj q
    rw [← q', cutAt_of]
    · rw [q']
    · intro p hp
      obtain ⟨z, hz, rfl⟩ := List.mem_map.mp hp
      exact StrLaws.split_free (S l) d z hz
    · unfold Txt.split
      intro h
      have h' := List.map_eq_nil_iff.mp h
      split at h'
      · cases h'
      · split at h'
        · cases h'
        · obtain ⟨p, r, e⟩ := StrLaws.partsFrom_ne (S l) (S [d]).length 0 (Builtin.Str.occurrences (S l) (S [d]) 0 (S l).length ((S l).length + 1))
          rw [StrLaws.partsBetween_eq, e] at h'
          cases h'
  rw [← key, List.map_map]
  rfl
end VL

set_option Elab.async false
set_option linter.all false
set_option maxRecDepth 100000
set_option maxHeartbeats 1000000
/-! VL, part 23: own classes: objects made, their attributes, their __init__. -/
namespace VL
open PySem PySem.Spec PyProof.Rows L2

/-! ### C(e, ..), what is raised told by the slots -/
def tNewS (C : Addr) (sp : Sp) (E : St → XK) (t : TA) : TE := fun σ H Q => t σ H fun vs H1 => ∀ x dx, H1 x = none → H1 dx = none → dx ≠ x → sp (.ref x :: vs) (upd (upd H1 dx (.own x)) x (.ins C dx [])) (fun v H2 => v = .non ∧ Q (.ref x) H2) (E σ)
section
variable {X : Cx} {W : WX} {k : Nat} {f C : Addr} {fd : FuncData} {ps : List Str} {sp : Sp} {x : Str} {p pos : Pos} {e : Expr} {es : List Expr} {t : TA}
theorem run_newS {pins : List (Addr × Obj)} {σ : St} {H : Hp} {s : Shared} {Q : VK} {us : List Value} {vs : List V} {E : XK} (M : Mk X.K C f) (G : FnOk X.prog X.w X.K X.mg X.base (L2.CX X.prog X.w) k f fd ps sp) (hr : Room (k + 1) X.A) (hb : Binds X.K fd ps []) (hx : PassesAt (L2.CX X.prog X.w) X σ E)
    (I : Inv X pins σ H s) (r : Vals vs us) (h : ∀ x dx, H x = none → H dx = none → dx ≠ x → sp (.ref x :: vs) (upd (upd H dx (.own x)) x (.ins C dx [])) (fun v H2 => v = .non ∧ Q (.ref x) H2) E) : wpAny (model X.prog X.w) X.A (call (.ref C) us) (EP X pins σ Q) X.xe s := by
  have q0 := h (s.heap.objs.size + 1) s.heap.objs.size (I.hok.fresh (Nat.le_succ _)) (I.hok.fresh (Nat.le_refl _)) (Nat.ne_of_lt (Nat.lt_succ_self _))
  have J := Inv.made (C := C) I
  have rr : Vals (V.ref (s.heap.objs.size + 1) :: vs) (Value.ref (s.heap.objs.size + 1) :: us) := .cons rfl r
  have hl : (Value.ref (s.heap.objs.size + 1) :: us ++ []).length = ps.length := by
    have e1 := rr.length
    rw [G.len _ _ _ _ q0] at e1
    rw [List.append_nil]; exact e1.symm
  have bd := hb _ (Value.ref (s.heap.objs.size + 1) :: us) J.kIn hl
  rw [List.append_nil] at bd
  refine wpAny_call (make_map (f := f) I.kIn M.makes M.init (beq_iff_eq.mp M.fn) (codeAny_mono (G.run _ X.stack _ _ ⟨Value.ref (s.heap.objs.size + 1) :: us, []⟩ (Value.ref (s.heap.objs.size + 1) :: us) _ _ E (hr.make C us []) (J.env0.make C us []) bd rr q0) fun w s' hw => ?_))
  cases w with
  | error e => exact hx pins _ _ e s' J hw
  | ok fl =>
    cases fl with
    | ret u =>
      obtain ⟨v, H', I3, rv, ev, q3⟩ := J.after hw
      subst ev
      exact ⟨rv, V.ref (s.heap.objs.size + 1), H', I3, rfl, q3⟩
    | _ => exact hw.elim
theorem pe_newS (M : Mk X.K C f) (G : FnOk X.prog X.w X.K X.mg X.base (L2.CX X.prog X.w) k f fd ps sp) (hr : Room (k + 1) X.A) (hg : Gl X x) (hm : X.mg x = some (.ref C)) (hb : Binds X.K fd ps []) (tk : Takes X W) (ha : PA X (e :: es) t)
    (hdb : (x == ("__debug__" : Str)) = false := by decide) (he : starEach (e :: es) X.env = (false, eval e X.env) :: starEach es X.env := by rfl) (hpl : (backTo pos (starEach es X.env)).any (·.1) = false := by rfl) : PE X (.Call (.Name x p) (e :: es) [] pos) (tNewS C sp (WE W) t) :=
  ⟨fun pins s σ H Q I h => wpAny_Call_Name_kw (ld_glob I hg hm (PySem.W.callWith_K (h₀ := X.base) I.ok.mod.kin M.kp (thn (ha.run pos pins s σ H _ I h) fun us s1 ⟨vs, H1, I1, r, q⟩ => ⟨I1.kIn, run_newS M G hr hb (passAt tk σ) I1 r q⟩) he hpl) hdb)⟩
end

/-! ### what an __init__ promises -/
structure GrowX (x : Addr) (F H F' H' : Hp) : Prop where
  ff : Same F F'
  hh : ∀ p o, p ≠ x → H p = some o → H' p = some o ∧ (F p = none → F' p = none)
  sub : Same F' H'
abbrev GN := List PV → Wp Ex (List (Str × PV))
def SpI (c : Cn) (n k : Nat) (m : GN) : Sp := fun vs H Q E => ∃ x dx ws F as, vs = .ref x :: ws ∧ ws.length = n ∧ H x = some (.ins (c.cA k) dx []) ∧ F x = none ∧ Same F H ∧ (∀ p, c.B p → ∃ o, H p = some o) ∧ Reps c F ws as ∧
  (m as).run (fun fs => ∀ vs' F' H', GrowX x F H F' H' → F' x = none → H' x = some (.ins (c.cA k) dx vs') → RepF c F' vs' fs → Q .non H') (fun e => ∀ d F' H', GrowX x F H F' H' → F' x = none → ExD c F' H' d e.fs → E (.ref (c.cA e.k)) d H')
structure ClsT (K : PySem.W.Frag) (C fI : Addr) (fs : List Str) : Prop where
  c : Cls K C
  M : Mk K C fI
  no : ∀ f, f ∈ fs → NoAttr K C f
  ha : PySem.W.findIn K (.ref C) "__class__" = some (some (.builtin "object.__class__"))
  hn : PySem.W.specialIn K (.builtin "object.__class__") "__get__" = some (some (.builtin "getset_descriptor.__get__"))
  ht : PySem.W.takesIn K (.builtin "object.__class__") = some true
  hm : PySem.W.mroIn K C (.type "object") = some true
/-- the class x, number k, with these attributes; its __init__ takes n arguments -/
structure Nv (P : Program) (w : World) (K : PySem.W.Frag) (mg : Str → Option Value) (base : Heap) (c : Cn) (j : Nat) (x : Str) (k n : Nat) (m : GN) : Prop where
  ex : ∃ fI fd ps, Mk K (c.cA k) fI ∧ mg x = some (.ref (c.cA k)) ∧ FnOk P w K mg base (L2.CX P w) j fI fd ps (SpI c n k m) ∧ Binds K fd ps []
def eNew (k : Nat) (m : GN) (ga : GA) : GE := fun ρ => (ga ρ).bind fun a => ((m a.1).mapE fun e => (e, a.2)).bind fun fs => .ret (.ins k fs, a.2)
section
variable {c : Cn} {X : Cx} {W : WX} {pos p : Pos} {x : Str} {σ : St} {ρ : Env'} {F H : Hp}
theorem ve_new {k j r n : Nat} {m : GN} {e : Expr} {es : List Expr} {ga : GA} (N : Nv X.prog X.w X.K X.mg X.base c j x k n m) (hr : Room r X.A) (hj : j + 1 ≤ r) (hg : Gl X x) (tk : Takes X W) (ha : PA X (e :: es) (tA c W n ga))
    (hdb : (x == ("__debug__" : Str)) = false := by decide) (he : starEach (e :: es) X.env = (false, eval e X.env) :: starEach es X.env := by rfl) (hpl : (backTo pos (starEach es X.env)).any (·.1) = false := by rfl) : PE X (.Call (.Name x p) (e :: es) [] pos) (tE c W (eNew k m ga)) := by
  obtain ⟨fI, fd, ps, M, hm, G, hb⟩ := N.ex
  refine imp_PE (pe_newS M G (hr.mono hj) hg hm hb tk ha hdb he hpl) fun σ H Q ⟨ρ, F, er, z⟩ => tA_bind er z fun v ρ1 vs F1 H1 st rep hl h1 => fun x dx hx hdx hne => ?_
  have fx := st.2.sub.free hx
  have up : ∀ p o, H1 p = some o → (upd (upd H1 dx (.own x)) x (.ins (c.cA k) dx [])) p = some o := fun p o h => by
    rw [upd_ne (ne_of_none h hx), upd_ne (ne_of_none h hdx)]; exact h
  have gr : ∀ {F' H'}, GrowX x F1 (upd (upd H1 dx (.own x)) x (.ins (c.cA k) dx [])) F' H' → Grow F1 H1 F' H' := fun {F' H'} g =>
    ⟨g.ff, fun p o h => (g.hh p o (ne_of_none h hx) (up p o h)).1, g.sub, fun p o h => (g.hh p o (ne_of_none h hx) (up p o h)).2⟩
  refine ⟨x, dx, vs, F1, v, rfl, hl, upd_same, fx, fun p o h => up p o (st.2.sub p o h), fun p b => (st.2.mrk p b).elim fun o h => ⟨o, up p o h⟩, rep, (m v).mono (fun fs q vs' F' H' g hF hH rf => ?_) (fun e q d F' H' g hF ex => ?_) h1⟩
  · have g1 := gr g
    have fz := freeze_grow g1.sub hF hH
    have g2 : Grow F1 H1 (upd F' x (.ins (c.cA k) dx vs')) H' := ⟨g1.ff.trans fz.1, g1.hh, fz.2, fun p o h n => by rw [upd_ne (ne_of_none h hx)]; exact g1.nf p o h n⟩
    exact ⟨rfl, q (.ref x) _ H' (st.trans (g2.stpE st.2)) (.ins upd_same (rf.mono fz.1))⟩
  · exact q d F' H' ((gr g).stpE st.2) ex

/-! ### o.f -/
def fldP (fs : List Str) (f : Str) (k : Nat) : PV → Option PV
  | .ins j vs => if j = k ∧ f ∈ fs then vs.lookup f else none
  | _ => none
def eFld (fs : List Str) (f : Str) (k : Nat) (g : GE) : GE := fun ρ => (g ρ).bind fun a => lift (fldP fs f k a.1) a.2
theorem ve_fld {k : Nat} {f : Str} {fs : List Str} {fI : Addr} {e : Expr} {ge : GE} (hk : c.K = X.K) (T : ClsT X.K (c.cA k) fI fs) (he : PE X e (tE c W ge)) (hb : attributeBase e f X.env (eval e X.env) = eval e X.env := by rfl) : PE X (.Attribute e f pos) (tE c W (eFld fs f k ge)) :=
  imp_PE (pe_fld he hb) fun σ H Q ⟨ρ, F, er, z⟩ => tE_bind er z fun v ρ1 w F1 H1 st rep h1 => by
    obtain ⟨u, e1, h2⟩ := lift_run h1
    cases rep with
    | @ins a dx vs j xs hF r =>
      unfold fldP at e1
      dsimp only at e1
      split at e1
      · rename_i hj
        obtain ⟨rfl, hf⟩ := hj
        obtain ⟨w, h3, h4⟩ := r.lookup e1
        exact ⟨a, _, dx, vs, w, rfl, st.2.sub _ _ hF, T.c, T.no f hf, h3, h2 w F1 H1 st h4⟩
      · cases e1
    | _ => cases e1
end

/-! ### __init__: tests first, then the attributes -/
def nown (ρ : Env') : Bool := ρ.all fun s => !s.own
theorem nown_own {σ : St} {ρ : Env'} (h : nown ρ = true) (p : Addr) : ¬ Own σ ρ p := fun ⟨i, s, _, h2, h3⟩ => by
  have := List.all_eq_true.mp h s (List.mem_of_getElem? h2)
  rw [h3] at this
  cases this
mutual
/-- no object below -/
def noIns : PV → Bool
  | .non => true | .bl _ => true | .int _ => true | .str _ => true | .any => true
  | .tup xs => noInss xs
  | .lst _ xs => noInss xs
  | _ => false
def noInss : List PV → Bool
  | [] => true
  | x :: xs => noIns x && noInss xs
end
/-- all but what stands at x -/
def less (F : Hp) (x : Addr) : Hp := fun a => if a = x then none else F a
theorem less_ne {F : Hp} {x a : Addr} (h : a ≠ x) : less F x a = F a := if_neg h
theorem less_eq {F : Hp} {x : Addr} : less F x x = none := if_pos rfl
mutual
theorem noIns_rep {c : Cn} {F : Hp} {x C dx : Addr} {us : List (Str × V)} (hx : F x = some (.ins C dx us)) : ∀ {v : V} {y : PV}, Rep c F v y → noIns y = true → Rep c (less F x) v y
  | _, _, .non, _ => .non
  | _, _, .bl b, _ => .bl b
  | _, _, .int i, _ => .int i
  | _, _, .str x, _ => .str x
  | _, _, .tup h r, e => .tup (by rw [less_ne (fun z => by subst z; rw [hx] at h; cases h)]; exact h) (noInss_rep hx r (by unfold noIns at e; exact e))
  | _, _, .lst h r t, e => .lst (by rw [less_ne (fun z => by subst z; rw [hx] at h; cases h)]; exact h) (noInss_rep hx r (by unfold noIns at e; exact e)) t
  | _, _, .any v, _ => .any v
  | _, _, .dic h r t, e => by unfold noIns at e; cases e
  | _, _, .ins h r, e => by unfold noIns at e; cases e
  | _, _, .scr h, e => by unfold noIns at e; cases e
theorem noInss_rep {c : Cn} {F : Hp} {x C dx : Addr} {us : List (Str × V)} (hx : F x = some (.ins C dx us)) : ∀ {vs : List V} {ys : List PV}, Reps c F vs ys → noInss ys = true → Reps c (less F x) vs ys
  | _, _, .nil, _ => .nil
  | _, _, .cons h r, e => by
    unfold noInss at e
    rw [Bool.and_eq_true] at e
    exact .cons (noIns_rep hx h e.1) (noInss_rep hx r e.2)
end
/-- the attributes one by one: (name, is self looked at, the value) -/
def runF (k : Nat) : List (Str × Bool × GE) → List (Str × PV) → Env' → Wp XE' (List (Str × PV))
  | [], fs, _ => .ret fs
  | (f, false, g) :: gs, fs, ρ => if nown ρ = true then (noE (g ρ)).bind fun a => if nown a.2 = true ∧ fs.lookup f = none ∧ fs.length < 900 then runF k gs (fs ++ [(f, a.1)]) a.2 else .stuck else .stuck
  | (f, true, g) :: gs, fs, ρ => if nown ρ = true then (noE (g (ρ.set 0 (.fz (.ins k fs))))).bind fun a => if nown a.2 = true ∧ noIns a.1 = true ∧ fs.lookup f = none ∧ fs.length < 900 then runF k gs (fs ++ [(f, a.1)]) (ρ.set 0 .un) else .stuck else .stuck
def tFl (c : Cn) (k : Nat) (gs : List (Str × Bool × GE)) : TS := fun D σ H => ∃ ρ F x dx vs fs, ER c F H σ ρ ∧ σ[0]? = some (some (.ref x)) ∧ F x = none ∧ nown ρ = true ∧ H x = some (.ins (c.cA k) dx vs) ∧ RepF c F vs fs ∧
  (runF k gs fs ρ).run (fun r => ∀ F' H' vs', GrowX x F H F' H' → F' x = none → H' x = some (.ins (c.cA k) dx vs') → RepF c F' vs' r → D.nx σ H') fun _ => False

theorem RepF.putF {c : Cn} {F : Hp} {f : Str} {w : V} {v : PV} (r : Rep c F w v) : ∀ {vs : List (Str × V)} {fs : List (Str × PV)}, RepF c F vs fs → fs.lookup f = none → RepF c F (L2.putF f w vs) (fs ++ [(f, v)])
  | _, _, .nil, _ => .cons r .nil
  | _, _, @RepF.cons _ _ k u x vs xs h t, e => by
    have ne : ¬ k = f := fun z => by subst z; simp [List.lookup] at e
    have e' : xs.lookup f = none := by
      rw [List.lookup_cons] at e
      have : (f == k) = false := by simpa [beq_eq_false_iff_ne] using fun z : f = k => ne z.symm
      rw [this] at e
      exact e
    show RepF c F (if k = f then (k, w) :: vs else (k, u) :: L2.putF f w vs) ((k, x) :: (xs ++ [(f, v)]))
    rw [if_neg ne]
    exact .cons h (RepF.putF r t e')
theorem RepF.length {c : Cn} {F : Hp} : ∀ {vs : List (Str × V)} {xs : List (Str × PV)}, RepF c F vs xs → vs.length = xs.length
  | _, _, .nil => rfl
  | _, _, .cons _ r => congrArg (· + 1) (RepF.length r)
theorem GrowX.refl {x : Addr} {F H : Hp} (s : Same F H) : GrowX x F H F H := ⟨Same.refl F, fun p o _ h => ⟨h, fun z => z⟩, s⟩
theorem GrowX.trans {x : Addr} {F H F1 H1 F2 H2 : Hp} (a : GrowX x F H F1 H1) (b : GrowX x F1 H1 F2 H2) : GrowX x F H F2 H2 :=
  ⟨a.ff.trans b.ff, fun p o n h => ⟨(b.hh p o n (a.hh p o n h).1).1, fun z => (b.hh p o n (a.hh p o n h).1).2 ((a.hh p o n h).2 z)⟩, b.sub⟩
section
variable {c : Cn} {X : Cx} {W : WX} {k : Nat} {f : Str} {fs : List Str} {fI : Addr} {o e : Expr} {g : GE} {gs : List (Str × Bool × GE)} {rest : List Stmt} {pos pos' : Pos}
theorem vf_nil : PSs X [] (tFl c k []) := imp_PSs pss_nil fun D σ H ⟨ρ, F, x, dx, vs, fs, er, h0, hF, hn, hH, rf, z⟩ => z F H vs (GrowX.refl er.sub) hF hH rf
/-- self.f = e -/
theorem vf_put (hk : c.K = X.K) (T : ClsT X.K (c.cA k) fI fs) (hf : f ∈ fs) (ho : PE X o (tVar 0)) (he : PE X e (tE c W0 g)) (hr : PSs X rest (tFl c k gs)) (hs : swapsWith e (some (.Attribute o f pos')) pos.line X.env = pure false := by rfl) :
    PSs X (.Assign [.Attribute o f pos'] e pos :: rest) (tFl c k ((f, false, g) :: gs)) :=
  imp_PSs (pss_cons (ps_fld ho he hs) hr) fun D σ H ⟨ρ, F, x, dx, vs, xs, er, h0, hF, hn, hH, rf, z⟩ => by
    unfold runF at z
    rw [if_pos hn] at z
    refine ⟨ρ, F, er, (g ρ).mono (fun r q w F1 H1 st rep => ?_) (fun _ q => q.elim) z⟩
    obtain ⟨v, ρ1⟩ := r
    have q' : (if nown ρ1 = true ∧ xs.lookup f = none ∧ xs.length < 900 then runF k gs (xs ++ [(f, v)]) ρ1 else .stuck : Wp XE' (List (Str × PV))).run _ _ := q
    by_cases hc : nown ρ1 = true ∧ xs.lookup f = none ∧ xs.length < 900
    · rw [if_pos hc] at q'
      obtain ⟨h1, h2⟩ := st.1.hh x _ hH (nown_own hn x)
      have hF1 := h2 hF
      have le : vs.length < 1000 := by rw [rf.length]; omega
      refine ⟨.ref x, h0, x, c.cA k, dx, vs, rfl, h1, T.c, T.no f hf, le, ?_⟩
      have er1 : ER c F1 (upd H1 x (.ins (c.cA k) dx (L2.putF f w vs))) σ ρ1 := er_upd st.2 hF1 (nown_own hc.1 x)
      have g1 : GrowX x F H F1 (upd H1 x (.ins (c.cA k) dx (L2.putF f w vs))) := ⟨st.1.ff, fun p ob n h => by
        obtain ⟨a1, a2⟩ := st.1.hh p ob h (nown_own hn p)
        exact ⟨by rw [upd_ne n]; exact a1, a2⟩, er1.sub⟩
      exact ⟨ρ1, F1, x, dx, L2.putF f w vs, xs ++ [(f, v)], er1, h0, hF1, hc.1, upd_same, (rf.mono st.1.ff).putF rep hc.2.1, (runF k gs (xs ++ [(f, v)]) ρ1).mono (fun r q F' H' vs' g2 hF' hH' rf' => q F' H' vs' (g1.trans g2) hF' hH' rf') (fun _ q => q) q'⟩
    · rw [if_neg hc] at q'
      exact q'.elim
/-- self.f = e, where e looks at self -/
theorem vf_self (hk : c.K = X.K) (T : ClsT X.K (c.cA k) fI fs) (hf : f ∈ fs) (ho : PE X o (tVar 0)) (he : PE X e (tE c W0 g)) (hr : PSs X rest (tFl c k gs)) (hs : swapsWith e (some (.Attribute o f pos')) pos.line X.env = pure false := by rfl) :
    PSs X (.Assign [.Attribute o f pos'] e pos :: rest) (tFl c k ((f, true, g) :: gs)) :=
  imp_PSs (pss_cons (ps_fld ho he hs) hr) fun D σ H ⟨ρ, F, x, dx, vs, xs, er, h0, hF, hn, hH, rf, z⟩ => by
    unfold runF at z
    rw [if_pos hn] at z
    have fz := freeze_grow er.sub hF hH
    have er0 : ER c (upd F x (.ins (c.cA k) dx vs)) H σ (ρ.set 0 (.fz (.ins k xs))) := by
      have e1 := (freeze_er er hF hH (nown_own hn x)).set (i := 0) (w := .ref x) (v := .ins k xs) (.ins upd_same (rf.mono fz.1))
      have : σ.set 0 (some (.ref x)) = σ := by
        apply List.ext_getElem?
        intro i
        by_cases hi : 0 = i
        · subst hi
          have l0 : 0 < σ.length := (List.getElem?_eq_some_iff.mp h0).1
          rw [List.getElem?_set_self l0, h0]
        · rw [List.getElem?_set_ne hi]
      rw [this] at e1
      exact e1
    have nO : ∀ p, ¬ Own σ (ρ.set 0 (.fz (.ins k xs))) p := fun p ⟨i, s, h1, h2, h3⟩ => by
      by_cases hi : 0 = i
      · subst hi
        rw [List.getElem?_set_self (by have := (List.getElem?_eq_some_iff.mp h2).1; rwa [List.length_set] at this)] at h2
        cases h2
        cases h3
      · rw [List.getElem?_set_ne hi] at h2
        exact nown_own hn p ⟨i, s, h1, h2, h3⟩
    refine ⟨_, _, er0, (g _).mono (fun r q w F1 H1 st rep => ?_) (fun _ q => q.elim) z⟩
    obtain ⟨v, ρ1⟩ := r
    have q' : (if nown ρ1 = true ∧ noIns v = true ∧ xs.lookup f = none ∧ xs.length < 900 then runF k gs (xs ++ [(f, v)]) (ρ.set 0 .un) else .stuck : Wp XE' (List (Str × PV))).run _ _ := q
    by_cases hc : nown ρ1 = true ∧ noIns v = true ∧ xs.lookup f = none ∧ xs.length < 900
    · rw [if_pos hc] at q'
      have hx1 : F1 x = some (.ins (c.cA k) dx vs) := st.1.ff _ _ upd_same
      have h1 := (st.1.hh x _ hH (nO x)).1
      have le : vs.length < 1000 := by rw [rf.length]; omega
      have fl : Same F (less F1 x) := fun p ob h => by
        have n : p ≠ x := fun z => by rw [z, hF] at h; cases h
        rw [less_ne n]
        exact st.1.ff _ _ (by rw [upd_ne n]; exact h)
      have sl : Same (less F1 x) (upd H1 x (.ins (c.cA k) dx (L2.putF f w vs))) := fun p ob h => by
        have n : p ≠ x := fun z => by rw [z, less_eq] at h; cases h
        rw [less_ne n] at h
        rw [upd_ne n]
        exact st.2.sub _ _ h
      have g1 : GrowX x F H (less F1 x) (upd H1 x (.ins (c.cA k) dx (L2.putF f w vs))) := ⟨fl, fun p ob n h => by
        obtain ⟨a1, a2⟩ := st.1.hh p ob h (nO p)
        exact ⟨by rw [upd_ne n]; exact a1, fun z => by rw [less_ne n]; exact a2 (by rw [upd_ne n]; exact z)⟩, sl⟩
      have er1 : ER c (less F1 x) (upd H1 x (.ins (c.cA k) dx (L2.putF f w vs))) σ (ρ.set 0 .un) := ⟨sl, by rw [List.length_set]; exact er.len, fun i ob s a1 a2 => by
        by_cases hi : 0 = i
        · subst hi
          rw [List.getElem?_set_self (by have := (List.getElem?_eq_some_iff.mp a2).1; rwa [List.length_set] at this)] at a2
          cases a2
          trivial
        · rw [List.getElem?_set_ne hi] at a2
          have sr := er.slot i ob s a1 a2
          cases s with
          | un => trivial
          | fz y => obtain ⟨u, e1, e2⟩ := sr; exact ⟨u, e1, e2.mono fl⟩
          | ow ys => obtain ⟨p, us, e1, _⟩ := sr; subst e1; exact absurd ⟨i, _, a1, a2, rfl⟩ (nown_own hn p)
          | bx m => obtain ⟨p, us, e1, _⟩ := sr; subst e1; exact absurd ⟨i, _, a1, a2, rfl⟩ (nown_own hn p), fun i j s t p a1 a2 a3 a4 a5 a6 => by
        by_cases hi : 0 = i
        · subst hi
          rw [List.getElem?_set_self (by have := (List.getElem?_eq_some_iff.mp a3).1; rwa [List.length_set] at this)] at a3
          cases a3
          cases a5
        · rw [List.getElem?_set_ne hi] at a3
          exact absurd ⟨i, s, a1, a3, a5⟩ (nown_own hn p), fun p b => by
        by_cases n : p = x
        · subst n; exact ⟨_, upd_same⟩
        · obtain ⟨ob, h⟩ := st.2.mrk p b; exact ⟨ob, by rw [upd_ne n]; exact h⟩⟩
      have hn2 : nown (ρ.set 0 .un) = true := by
        unfold nown
        rw [List.all_eq_true]
        intro s hs
        rcases List.mem_or_eq_of_mem_set hs with z | z
        · exact List.all_eq_true.mp hn s z
        · subst z; rfl
      refine ⟨.ref x, h0, x, c.cA k, dx, vs, rfl, h1, T.c, T.no f hf, le, ?_⟩
      exact ⟨ρ.set 0 .un, less F1 x, x, dx, L2.putF f w vs, xs ++ [(f, v)], er1, h0, less_eq, hn2, upd_same, (rf.mono fl).putF (noIns_rep hx1 rep hc.2.1) hc.2.2.1, (runF k gs (xs ++ [(f, v)]) (ρ.set 0 .un)).mono (fun r q F' H' vs' g2 hF' hH' rf' => q F' H' vs' (g1.trans g2) hF' hH' rf') (fun _ q => q) q'⟩
    · rw [if_neg hc] at q'
      exact q'.elim
end
end VL

set_option Elab.async false
set_option linter.all false
set_option maxRecDepth 100000
set_option maxHeartbeats 1000000
/-! VL, part 24: __init__ as a whole; isinstance of an own class; == of objects. -/
namespace VL
open PySem PySem.Spec PyProof.Rows L2

/-! ### the whole __init__ -/
abbrev GIn := Env' → Wp XE' (List (Str × PV))
def iCons (g : GS) (m : GIn) : GIn := fun ρ => if nown ρ = true then (g ρ).bind fun o => match o with
  | .nx ρ1 => if nown ρ1 = true then m ρ1 else .stuck
  | _ => .stuck
  else .stuck
def iEnd (k : Nat) (gs : List (Str × Bool × GE)) : GIn := fun ρ => if nown ρ = true then runF k gs [] ρ else .stuck
def tIn (c : Cn) (W : WX) (k : Nat) (m : GIn) : TS := fun D σ H => ∃ ρ F x dx, ER c F H σ ρ ∧ σ[0]? = some (some (.ref x)) ∧ F x = none ∧ H x = some (.ins (c.cA k) dx []) ∧
  (m ρ).run (fun r => ∀ σ' F' H' vs', GrowX x F H F' H' → F' x = none → H' x = some (.ins (c.cA k) dx vs') → RepF c F' vs' r → D.nx σ' H') (fun e => ∀ σ' d F' H', GrowX x F H F' H' → F' x = none → ExD c F' H' d e.1.fs → W (.ref (c.cA e.1.k)) d σ' H')
section
variable {c : Cn} {X : Cx} {W : WX} {k n : Nat} {st : Stmt} {rest : List Stmt} {g : GS} {m : GIn} {gs : List (Str × Bool × GE)}
theorem vi_cons (h1 : PS X st (tS c pin0 W g)) (h2 : PSs X rest (tIn c W k m)) : PSs X (st :: rest) (tIn c W k (iCons g m)) :=
  imp_PSs (pss_cons h1 h2) fun D σ H ⟨ρ, F, x, dx, er, h0, hF, hH, z⟩ => by
    unfold iCons at z
    by_cases hn : nown ρ = true
    · rw [if_pos hn] at z
      have gx : ∀ {σ' ρ' F' H'}, StpS c pin0 σ ρ F H σ' ρ' F' H' → GrowX x F H F' H' := fun {σ' ρ' F' H'} s => ⟨s.1.ff, fun p o _ h => s.1.hh p o h (nown_own hn p), s.2.1.sub⟩
      refine ⟨ρ, F, er, (g ρ).mono (fun o q => ?_) (fun e q d σ' F' H' s ex => q σ' d F' H' (gx s) ((s.1.hh x _ hH (nown_own hn x)).2 hF) ex) z⟩
      cases o with
      | nx ρ1 =>
        intro σ' F' H' s
        have q' : (if nown ρ1 = true then m ρ1 else .stuck : Wp XE' (List (Str × PV))).run _ _ := q
        by_cases hn1 : nown ρ1 = true
        · rw [if_pos hn1] at q'
          obtain ⟨a1, a2⟩ := s.1.hh x _ hH (nown_own hn x)
          exact ⟨ρ1, F', x, dx, s.2.1, by rw [s.2.2.1 0 rfl]; exact h0, a2 hF, a1, (m ρ1).mono (fun r q σ2 F2 H2 vs' g2 => q σ2 F2 H2 vs' ((gx s).trans g2)) (fun e q σ2 d F2 H2 g2 => q σ2 d F2 H2 ((gx s).trans g2)) q'⟩
        · rw [if_neg hn1] at q'
          exact q'.elim
      | _ => exact q.elim
    · rw [if_neg hn] at z
      exact z.elim
theorem runF_noE : ∀ (gs : List (Str × Bool × GE)) (fs : List (Str × PV)) (ρ : Env') {K : List (Str × PV) → Prop} {E E' : XE' → Prop}, (runF k gs fs ρ).run K E → (runF k gs fs ρ).run K E'
  | [], fs, ρ, K, E, E', h => h
  | (f, false, g) :: gs, fs, ρ, K, E, E', h => by
    unfold runF at h ⊢
    by_cases hn : nown ρ = true
    · rw [if_pos hn] at h ⊢
      refine (g ρ).mono (fun r q => ?_) (fun _ q => q) h
      have q' : (if nown r.2 = true ∧ fs.lookup f = none ∧ fs.length < 900 then runF k gs (fs ++ [(f, r.1)]) r.2 else .stuck : Wp XE' (List (Str × PV))).run K E := q
      show (if nown r.2 = true ∧ fs.lookup f = none ∧ fs.length < 900 then runF k gs (fs ++ [(f, r.1)]) r.2 else .stuck : Wp XE' (List (Str × PV))).run K E'
      by_cases hc : nown r.2 = true ∧ fs.lookup f = none ∧ fs.length < 900
      · rw [if_pos hc] at q' ⊢
        exact runF_noE gs _ _ q'
      · rw [if_neg hc] at q'
        exact q'.elim
    · rw [if_neg hn] at h
      exact h.elim
  | (f, true, g) :: gs, fs, ρ, K, E, E', h => by
    unfold runF at h ⊢
    by_cases hn : nown ρ = true
    · rw [if_pos hn] at h ⊢
      refine (g _).mono (fun r q => ?_) (fun _ q => q) h
      have q' : (if nown r.2 = true ∧ noIns r.1 = true ∧ fs.lookup f = none ∧ fs.length < 900 then runF k gs (fs ++ [(f, r.1)]) (ρ.set 0 .un) else .stuck : Wp XE' (List (Str × PV))).run K E := q
      show (if nown r.2 = true ∧ noIns r.1 = true ∧ fs.lookup f = none ∧ fs.length < 900 then runF k gs (fs ++ [(f, r.1)]) (ρ.set 0 .un) else .stuck : Wp XE' (List (Str × PV))).run K E'
      by_cases hc : nown r.2 = true ∧ noIns r.1 = true ∧ fs.lookup f = none ∧ fs.length < 900
      · rw [if_pos hc] at q' ⊢
        exact runF_noE gs _ _ q'
      · rw [if_neg hc] at q'
        exact q'.elim
    · rw [if_neg hn] at h
      exact h.elim
theorem vi_end (h : PSs X rest (tFl c k gs)) : PSs X rest (tIn c W k (iEnd k gs)) :=
  imp_PSs h fun D σ H ⟨ρ, F, x, dx, er, h0, hF, hH, z⟩ => by
    unfold iEnd at z
    by_cases hn : nown ρ = true
    · rw [if_pos hn] at z
      exact ⟨ρ, F, x, dx, [], [], er, h0, hF, hn, hH, .nil, (runF k gs [] ρ).mono (fun r q F' H' vs' g2 => q σ F' H' vs' g2) (fun _ q => q) (runF_noE gs [] ρ z)⟩
    · rw [if_neg hn] at z
      exact z.elim
end
def iniV (len : Nat) (m : GIn) : GN := fun as => (m (.un :: fzs as ++ List.replicate (len - (as.length + 1)) .un)).mapE fun e => e.1
theorem er_self {c : Cn} {F H : Hp} {a : Addr} {ws : List V} {as : List PV} (s : Same F H) (mrk : ∀ p, c.B p → ∃ o, H p = some o) (r : Reps c F ws as) : ER c F H ((V.ref a :: ws).map some) (.un :: fzs as) := by
  have e0 := r.er s mrk
  refine ⟨s, by simp [fzs, r.length], fun j o t h1 h2 => ?_, fun j k t u p h1 h2 h3 h4 h5 h6 => ?_, mrk⟩
  · cases j with
    | zero => cases h2; trivial
    | succ j => exact e0.slot j o t (by simpa using h1) (by simpa using h2)
  · cases j with
    | zero => cases h3; cases h5
    | succ j => exact absurd ⟨j, t, by simpa using h1, by simpa using h3, h5⟩ (fzs_own (σ := ws.map some) (xs := as) (p := p))
theorem init_fn {c : Cn} {P : Program} {w : World} {K : PySem.W.Frag} {mg : Str → Option Value} {base : Heap} {qual : Str} {st : Stmt} {f : Addr} {fd : FuncData} {N ps : List Str} {j k n : Nat} {m : GIn} (hk : c.K = K) (Fn : Fun K "__init__" qual st f fd) (S : FnScope N ps (defScope st)) (hn : ps.length = n + 1) (hl : ps.length ≤ N.length)
    (hbody : ∀ (cdv : Value) (A : Around) (outer : List Env) (s : Shared) (H : Hp) (E : XK), Room j (A.deeper (envOfC qual (defScope st) s.heap.objs.size f cdv)) → PSs (cxOf (L2.CX P w) P w K mg base N qual (defScope st) f cdv A outer s H E) (defBody st) (tIn c (fun cls d _ H' => E cls d H') k m)) :
    FnOk P w K mg base (L2.CX P w) (j + 1) f fd ps (SpI c n k (iniV N.length m)) := by
  refine Fn.okX S (fun vs H Q E h => by obtain ⟨x, dx, ws, F, as, e, l, _⟩ := h; subst e; rw [List.length_cons, l, hn]) fun cdv A outer s H vs Q E hr h => ⟨_, hbody cdv A outer s H E hr, ?_⟩
  obtain ⟨x, dx, ws, F, as, rfl, l, hx, hF, sub, mrk, rep, z⟩ := h
  obtain ⟨er0, _⟩ := er_enter (N := N) (er_self (a := x) sub mrk rep) (by rw [List.length_cons]; omega)
  have la : (SV.un :: fzs as).length = as.length + 1 := by simp [fzs]
  rw [la] at er0
  refine ⟨_, F, x, dx, er0, ?_, hF, hx, (m _).mono (fun r q σ' F' H' vs' g h1 h2 h3 => q vs' F' H' g h1 h2 h3) (fun e q σ' d F' H' g h1 h2 => q d F' H' g h1 h2) z⟩
  unfold L2.start
  rfl

/-! ### isinstance(x, C), C an own class -/
def isC (k : Nat) : PV → Option Bool
  | .ins j _ => if j = k then some true else none
  | v => (tyN v).map fun _ => false
def pIsC (k : Nat) (v : PV) : Option PV := (isC k v).map .bl
/-- an object is of its class, a built-in thing is not -/
structure KitC (K : PySem.W.Frag) (C : Addr) : Prop where
  own : PySem.W.kitOne K (.ref C) (.ref C) = some true
  ty : ∀ t, t ∈ ["NoneType", "bool", "int", "str", "tuple", "list", "dict"] → PySem.W.kitOne K (.type t) (.ref C) = some false
theorem tyN_mem {v : PV} {t : String} (h : tyN v = some t) : t ∈ ["NoneType", "bool", "int", "str", "tuple", "list", "dict"] := by
  cases v <;> first | (cases h; simp; done) | cases h
section
variable {c : Cn} {X : Cx} {W : WX} {pos p p2 : Pos} {a : Expr} {ga : GE}
theorem ve_isC {x y : Str} {k : Nat} {fI : Addr} {fs : List Str} (hk : c.K = X.K) (hg : Gl X x) (hm : X.mg x = none) (hv : bootBuiltins x = some (.builtin "isinstance")) (ha : PE X a (tE c W ga)) (hg2 : Gl X y) (hy : X.mg y = some (.ref (c.cA k))) (T : ClsT X.K (c.cA k) fI fs) (KC : KitC X.K (c.cA k))
    (hn : x ≠ "__name__" := by decide) (hdb : (x == ("__debug__" : Str)) = false := by decide) (hdb2 : (y == ("__debug__" : Str)) = false := by decide)
    (he : starEach [a, .Name y p2] X.env = (false, eval a X.env) :: starEach [.Name y p2] X.env := by rfl) (he2 : starEach [.Name y p2] X.env = (false, eval (.Name y p2) X.env) :: starEach [] X.env := by rfl)
    (hpl : (backTo pos (starEach [.Name y p2] X.env)).any (·.1) = false := by rfl) : PE X (.Call (.Name x p) [a, .Name y p2] [] pos) (tE c W (eOp1 (pIsC k) ga)) := by
  refine imp_PE (pe_callB call_isi hg hm hv (pa_cons ha (pa_cons (pe_glob (v := .ref (c.cA k)) hg2 hy rfl hdb2) pa_nil he2) he) hn hdb he hpl) fun σ H Q ⟨ρ, F, er, z⟩ => ?_
  refine tE_bind er z fun v ρ1 w F1 H1 st rep h1 => ?_
  obtain ⟨u, e, h2⟩ := lift_run h1
  obtain ⟨b, e1, rfl⟩ := Option.map_eq_some_iff.mp e
  have fin : ∀ t, TyOf X.K H1 w t → PySem.W.kitOne X.K t (.ref (c.cA k)) = some b → rIsi X.K [w, .ref (c.cA k)] H1 Q := fun t ty kt => ⟨w, .ref (c.cA k), t, .ref (c.cA k), b, rfl, .own _, .base ty, kt, h2 _ F1 H1 st (.bl b)⟩
  by_cases hi : ∃ j fs, v = .ins j fs
  · obtain ⟨j, fs, rfl⟩ := hi
    unfold isC at e1
    dsimp only at e1
    split at e1
    · rename_i ej
      cases e1
      subst ej
      cases rep with
      | ins h r => exact fin _ (.ins (st.2.sub _ _ h) T.c T.ha T.hn T.ht T.hm) KC.own
    · cases e1
  · have e2 : (tyN v).map (fun _ => false) = some b := by
      cases v with
      | ins j fs => exact absurd ⟨j, fs, rfl⟩ hi
      | _ => exact e1
    obtain ⟨t, e3, rfl⟩ := Option.map_eq_some_iff.mp e2
    exact fin _ (hk ▸ tyN_ok st.2.sub rep e3) (KC.ty t (tyN_mem e3))
end

/-! ### == of an object, by its class's __eq__ -/
def plainT (v : PV) : Bool := match v with
  | .non => true | .bl _ => true | .int _ => true | .str _ => true
  | _ => false
/-- the right side: an object of the same class, or a plain thing -/
def okR (k : Nat) (v : PV) : Bool := match v with
  | .ins j _ => decide (j = k)
  | v => plainT v
structure EqT (P : Program) (w : World) (K : PySem.W.Frag) (mg : Str → Option Value) (base : Heap) (c : Cn) (j k : Nat) (me : GF) : Prop where
  ex : ∃ f fd ps, PySem.W.findIn K (.ref (c.cA k)) "__eq__" = some (some (.ref f)) ∧ PySem.W.isFn K (.ref f) = true ∧ FnOk P w K mg base (L2.CX P w) j f fd ps (SpV c 2 me) ∧ Binds K fd ps []
  nf : ∀ t, t ∈ ["NoneType", "bool", "int", "str"] → PySem.W.notFirst K (c.cA k) (.type t) = true
def rEqI (c : Cn) (k : Nat) (me : GF) : R2 := fun x y H Q => ∃ F fs b, Rep c F x (.ins k fs) ∧ Rep c F y b ∧ Same F H ∧ (∀ p, c.B p → ∃ o, H p = some o) ∧ okR k b = true ∧
  (me [.fz (.ins k fs), .fz b]).run (fun r => ∃ z, r.1 = .bl z ∧ ∀ F' H', Grow F H F' H' → Q (.bl z) H') (fun _ => False)
section
variable {c : Cn} {X : Cx} {W : WX} {pos : Pos} {a b : Expr} {ga gb : GE}
theorem op_eqI {j k r : Nat} {me : GF} (N : EqT X.prog X.w X.K X.mg X.base c j k me) (hr : Room r X.A) (hj : j ≤ r) : OpR X (compareOp .Eq) (rEqI c k me) := by
  intro pins s σ H x y v u Q I rx ry hq
  obtain ⟨f, fd, ps, hs, hf, G, hb⟩ := N.ex
  obtain ⟨F, fs, b, r1, r2, sub, mrk, ok, z⟩ := hq
  have rr : Reps c F [x, y] [.ins k fs, b] := .cons r1 (.cons r2 .nil)
  cases r1 with
  | @ins a dx vs _ _ hF rf =>
    cases rx
    have ha := sub _ _ hF
    obtain ⟨mA, J, _⟩ := ins_get I.hok ha
    obtain ⟨od, J, _⟩ := J.look
    obtain ⟨m, hFr⟩ := I.fr
    show wpAny (model X.prog X.w) X.A (richCompare .Eq (.ref a) u) (EP X pins σ Q) X.xe s
    have sp : SpV c 2 me [.ref a, y] H (fun v H' => (∃ z, v = .bl z) ∧ Q v H') (fun _ _ _ => False) := by
      refine ⟨rfl, F, fzs [.ins k fs, b], rr.er sub mrk, (me _).mono (fun r q w F' H' st rp => ?_) (fun _ q => q.elim) z⟩
      obtain ⟨z, e, q⟩ := q
      rw [e] at rp
      cases rp
      exact ⟨⟨z, rfl⟩, q F' H' ⟨st.1.ff, fun p o h => (st.1.hh p o h fzs_own).1, st.2.sub, fun p o h => (st.1.hh p o h fzs_own).2⟩⟩
    have body : wpAny (model X.prog X.w) X.A (call (.ref f) [.ref a, u]) (PySem.W.CmpBack (EP X pins σ Q)) X.xe s := by
      have hl := G.len _ _ _ _ sp
      have rv : Vals [V.ref a, y] [Value.ref a, u] := .cons rfl (.cons ry .nil)
      refine wpAny_call (codeAny_mono (G.run X.A X.stack s H ⟨[.ref a, u], []⟩ [.ref a, u] [.ref a, y] _ _ (hr.mono hj) I.env0 (by simpa using hb s [.ref a, u] I.kIn (by simpa using hl)) rv sp) fun r s' hw => ?_)
      cases r with
      | error e => exact (passL pins σ H s e s' I hw : X.xe e s')
      | ok fl =>
        cases fl with
        | ret w =>
          obtain ⟨z, H', I', rz, ⟨k, ez⟩, qq⟩ := I.after hw
          subst ez
          cases rz
          exact ⟨.bl k, H', I', rfl, qq⟩
        | _ => exact hw.elim
    cases r2 with
    | @ins a2 dx2 vs2 j2 xs2 hF2 rf2 =>
      cases ry
      have e2 : j2 = k := of_decide_eq_true ok
      subst e2
      obtain ⟨mB, J', _⟩ := ins_get I.hok (sub _ _ hF2)
      obtain ⟨od', J', _⟩ := J'.look
      exact PySem.W.cmp_K (op := .Eq) (tb := .ref (c.cA j2)) hr.units0 hFr I.ok.mod.kin J J'.type (by simp [PySem.W.notFirst]) hs hf body
    | non =>
      cases ry
      exact PySem.W.cmp_K (op := .Eq) (tb := .type "NoneType") hr.units0 hFr I.ok.mod.kin J (PySem.W.Looks.of_pure rfl) (N.nf _ (by simp)) hs hf body
    | int i =>
      obtain ⟨tk, rfl⟩ := ry
      exact PySem.W.cmp_K (op := .Eq) (tb := .type "int") hr.units0 hFr I.ok.mod.kin J (PySem.W.Looks.of_pure rfl) (N.nf _ (by simp)) hs hf body
    | bl i =>
      cases ry
      exact PySem.W.cmp_K (op := .Eq) (tb := .type "bool") hr.units0 hFr I.ok.mod.kin J (PySem.W.Looks.of_pure rfl) (N.nf _ (by simp)) hs hf body
    | str i =>
      obtain ⟨tk, rfl⟩ := ry
      exact PySem.W.cmp_K (op := .Eq) (tb := .type "str") hr.units0 hFr I.ok.mod.kin J (PySem.W.Looks.of_pure rfl) (N.nf _ (by simp)) hs hf body
    | _ => cases ok
def eEqI (k : Nat) (me : GF) (ga gb : GE) : GE := fun ρ => (ga ρ).bind fun a => (gb a.2).bind fun b => match a.1 with
  | .ins j fs => if j = k ∧ okR k b.1 = true then (noE (me [.fz (.ins k fs), .fz b.1])).bind fun r => match r.1 with
    | .bl z => .ret (.bl z, b.2)
    | _ => .stuck
  else .stuck
  | _ => .stuck
theorem ve_eqI {j k r : Nat} {me : GF} (N : EqT X.prog X.w X.K X.mg X.base c j k me) (hr : Room r X.A) (hj : j ≤ r) (ha : PE X a (tE c W ga)) (hb : PE X b (tE c W gb)) (hm : behindInMarks .Eq b = false := by rfl) : PE X (.Compare a [.Eq] [b] pos) (tE c W (eEqI k me ga gb)) :=
  imp_PE (pe_cmpR (op_eqI N hr hj) ha hb hm) fun σ H Q ⟨ρ, F, er, z⟩ => tE_bind er z fun v ρ1 w F1 H1 st rep h1 => tE_bind st.2 h1 fun u ρ2 y F2 H2 st2 rep2 h2 => by
    have st12 := st.trans st2
    dsimp only at h2
    split at h2
    · rename_i j' fs
      split at h2
      · rename_i hc
        obtain ⟨rfl, ok⟩ := hc
        refine ⟨F2, fs, u, rep.mono st2.1.ff, rep2, st2.2.sub, st2.2.mrk, ok, (me _).mono (fun r q => ?_) (fun _ q => q) h2⟩
        obtain ⟨r1, r2⟩ := r
        cases r1 with
        | bl z => exact ⟨z, rfl, fun F' H' g => q (.bl z) F' H' (st12.trans (g.stpE st2.2)) (.bl z)⟩
        | _ => exact q.elim
      · exact h2.elim
    · exact h2.elim
end
end VL

set_option Elab.async false
set_option linter.all false
set_option maxRecDepth 100000
set_option maxHeartbeats 1000000
/-! VL, part 25: comprehensions with two for. -/
namespace VL
open PySem PySem.Spec PyProof.Rows L2
def lcLoop2 (is is1 : List Nat) (f : GG) (gt : GT) (gi1 : GI) (f1 : GG) (gt1 : GT) (ge : GE) : List PV → Env' → Wp XE' (List PV × Env')
  | [], ρ => .ret ([], ρ)
  | x :: xs, ρ => match f x (wipeE ρ is) with
    | none => .stuck
    | some ρ1 => (gt ρ1).bind fun b => if b.1 = true then (gi1 b.2).bind fun ys => if ys.1.length ≤ 4096 then (lcLoop is1 f1 gt1 ge ys.1 ys.2).bind fun r => (lcLoop2 is is1 f gt gi1 f1 gt1 ge xs r.2).bind fun q => .ret (r.1 ++ q.1, q.2) else .stuck
      else lcLoop2 is is1 f gt gi1 f1 gt1 ge xs b.2
def lLc2 (is is1 : List Nat) (gi : GI) (f : GG) (gt : GT) (gi1 : GI) (f1 : GG) (gt1 : GT) (ge : GE) : GL := fun ρ => (gi ρ).bind fun a => if a.1.length ≤ 4096 ∧ frozenAt a.2 is = true then (noEx (lcLoop2 is is1 f gt gi1 f1 gt1 ge a.1 a.2)).bind fun q => .ret (q.1, backE q.2 a.2 is) else .stuck
section
variable {c : Cn} {X : Cx} {W : WX}
/-- the outer loop behind i turns -/
structure LcO (c : Cn) (is is1 : List Nat) (f : GG) (gt : GT) (gi1 : GI) (f1 : GG) (gt1 : GT) (ge : GE) (σ : St) (ρ1 : Env') (F1 H1 : Hp) (D : Addr) (xs : List PV) (Z : List PV × Env' → Prop) (i : Nat) (H' : Hp) : Prop where
  ex : ∃ (acc : List V) (accP : List PV) (ρ' : Env') (F' : Hp), acc.length ≤ i * 4096 ∧ H' D = some (.lst acc) ∧ F' D = none ∧ ¬ Own (wipe σ is) (wipeE ρ' is) D ∧
    Stp F1 H1 (Own (wipe σ is) (wipeE ρ1 is)) F' H' (fun p => Own (wipe σ is) (wipeE ρ' is) p ∨ p = D) ∧ ER c F' H' (wipe σ is) (wipeE ρ' is) ∧ Reps c F' acc accP ∧
    (lcLoop2 is is1 f gt gi1 f1 gt1 ge (xs.drop i) ρ').run (fun q => Z (accP ++ q.1, q.2)) (fun _ => False)
/-- the inner loop behind j turns -/
structure LcJ (c : Cn) (is is1 : List Nat) (f : GG) (gt : GT) (gi1 : GI) (f1 : GG) (gt1 : GT) (ge : GE) (σ σ2 : St) (ρ1 : Env') (F1 H1 F2 : Hp) (D : Addr) (xs ys : List PV) (Z : List PV × Env' → Prop) (i j : Nat) (H' : Hp) : Prop where
  ex : ∃ (acc : List V) (accP : List PV) (ρ' : Env') (F' : Hp), acc.length ≤ i * 4096 + j ∧ H' D = some (.lst acc) ∧ F' D = none ∧ ¬ Own (wipe σ2 is1) (wipeE ρ' is1) D ∧ Same F2 F' ∧
    Stp F1 H1 (Own (wipe σ is) (wipeE ρ1 is)) F' H' (fun p => Own (wipe σ2 is1) (wipeE ρ' is1) p ∨ p = D) ∧ ER c F' H' (wipe σ2 is1) (wipeE ρ' is1) ∧ Reps c F' acc accP ∧
    ((lcLoop is1 f1 gt1 ge (ys.drop j) ρ').bind fun r => (lcLoop2 is is1 f gt gi1 f1 gt1 ge (xs.drop (i + 1)) r.2).bind fun q => .ret (r.1 ++ q.1, q.2)).run (fun q => Z (accP ++ q.1, q.2)) (fun _ => False)
theorem wipeE_sub {is is1 : List Nat} (h : ∀ i ∈ is1, i ∈ is) (ρ : Env') : wipeE (wipeE ρ is1) is = wipeE ρ is := by
  apply List.ext_getElem?
  intro j
  rw [wipeE_get, wipeE_get, wipeE_length, wipeE_get]
  by_cases hj : j ∈ is
  · rw [if_pos hj, if_pos hj]
  · rw [if_neg hj, if_neg hj, if_neg fun z => hj (h j z)]
theorem wipe_sub {is is1 : List Nat} (h : ∀ i ∈ is1, i ∈ is) (σ : St) : wipe (wipe σ is1) is = wipe σ is := wipe_eq (wipe_length σ is1) fun j hj => by rw [wipe_get, if_neg fun z => hj (h j z)]
/-- an inner turn -/
theorem lcJ_turn {is is1 : List Nat} {g1 : TG} {f f1 : GG} {gt gt1 : GT} {gi1 : GI} {ge : GE} {σ σ2 : St} {ρ1 : Env'} {F1 H1 F2 : Hp} {D : Addr} {xs ys : List PV} {Z : List PV × Env' → Prop} {i j : Nat} {H' : Hp} {J : It} (wk : Wk c J F2 ys) (hz : ys.length ≤ 4096) (hi : i < 4096) (hgf : TgOk c is1 g1 f1)
    (h : LcJ c is is1 f gt gi1 f1 gt1 ge σ σ2 ρ1 F1 H1 F2 D xs ys Z i j H') (hj : j < ys.length) : J.go j H' ∧ ∀ x Hy, J.yld j H' x Hy → g1 x (wipe σ2 is1) Hy fun σ3 H5 => wipe σ3 is1 = wipe σ2 is1 ∧ tT c W0 gt1 σ3 H5 fun b H6 =>
      if b = true then tE c W0 ge σ3 H6 fun y H7 => ∃ acc, H7 D = some (.lst acc) ∧ acc.length < sizeLine ∧ LcJ c is is1 f gt gi1 f1 gt1 ge σ σ2 ρ1 F1 H1 F2 D xs ys Z i (j + 1) (upd H7 D (.lst (acc ++ [y]))) else LcJ c is is1 f gt gi1 f1 gt1 ge σ σ2 ρ1 F1 H1 F2 D xs ys Z i (j + 1) H6 := by
  obtain ⟨acc, accP, ρ', F', hl, hD, hF, no, fs, st, er, rep, run⟩ := h.ex
  have hx : ys[j]? = some ys[j] := List.getElem?_eq_getElem hj
  obtain ⟨go, yl⟩ := wk.go j ys[j] H' hx (fs.trans er.sub)
  refine ⟨go, fun x Hy y => ?_⟩
  obtain ⟨Fy, gr, rx⟩ := yl x Hy F' fs er.sub y
  have ery := er.grow gr
  rw [List.drop_eq_getElem_cons hj] at run
  unfold lcLoop at run
  cases hf : f1 ys[j] (wipeE ρ' is1) with
  | none => rw [hf] at run; exact run.elim
  | some ρ2 =>
    rw [hf] at run
    dsimp only at run
    refine hgf Fy Hy (wipe σ2 is1) (wipeE ρ' is1) ρ2 x ys[j] _ ery rx hf fun σ3 er2 ow2 w2 nj => ?_
    have w3 : wipe σ3 is1 = wipe σ2 is1 := w2.trans (wipe_idem σ2 is1)
    refine ⟨w3, ?_⟩
    have hDy : Hy D = some (.lst acc) := gr.hh _ _ hD
    have hFy : Fy D = none := gr.nf _ _ hD hF
    have no2 : ¬ Own σ3 ρ2 D := fun z => no (ow2 D z)
    have stC : Stp F1 H1 (Own (wipe σ is) (wipeE ρ1 is)) Fy Hy (fun p => Own σ3 ρ2 p ∨ p = D) := (st.trans (gr.stp _)).less fun p z => z.imp (ow2 p) id
    refine tT_bind0 (k := fun b => ((if b.1 = true then (ge b.2).bind fun y => (lcLoop is1 f1 gt1 ge (ys.drop (j + 1)) y.2).bind fun r => .ret (y.1 :: r.1, r.2) else lcLoop is1 f1 gt1 ge (ys.drop (j + 1)) b.2 : Wp XE' (List PV × Env')).bind fun r => (lcLoop2 is is1 f gt gi1 f1 gt1 ge (xs.drop (i + 1)) r.2).bind fun q => .ret (r.1 ++ q.1, q.2))) er2 run fun b ρ3 F3 H3 st3 run3 => ?_
    have d3 := st3.1.hh D _ hDy no2
    have no3 : ¬ Own σ3 ρ3 D := fun z => (st3.1.ow D z).elim no2 fun q => by rw [hDy] at q; cases q
    have st3' := stC.trans (st3.1.add D)
    have noF : ∀ {ρ : Env'}, ¬ Own σ3 ρ D → ¬ Own (wipe σ2 is1) (wipeE ρ is1) D := fun {ρ} n z => n (own_wipe (vs := is1) (by rw [w3]; exact z))
    have f3 := fs.trans (gr.ff.trans st3.1.ff)
    cases b with
    | false =>
      simp only [Bool.false_eq_true, if_false] at run3 ⊢
      exact ⟨acc, accP, ρ3, F3, by omega, d3.1, d3.2 hFy, noF no3, f3, st3'.less fun p z => z.imp (fun z => own_wipe (vs := is1) (by rw [w3]; exact z)) id, by rw [← w3]; exact st3.2.wipe is1, rep.mono (gr.ff.trans st3.1.ff), run3⟩
    | true =>
      simp only [if_true] at run3 ⊢
      refine tE_bind0 (k := fun y => (((lcLoop is1 f1 gt1 ge (ys.drop (j + 1)) y.2).bind fun r => (.ret (y.1 :: r.1, r.2) : Wp XE' (List PV × Env'))).bind fun r => (lcLoop2 is is1 f gt gi1 f1 gt1 ge (xs.drop (i + 1)) r.2).bind fun q => .ret (r.1 ++ q.1, q.2))) st3.2 run3 fun yv ρ4 y F4 H4 st4 r4 run4 => ?_
      have d4 := st4.1.hh D _ d3.1 no3
      have no4 : ¬ Own σ3 ρ4 D := fun z => (st4.1.ow D z).elim no3 fun q => by rw [d3.1] at q; cases q
      have lt : acc.length < 16777216 := by
        have : (i + 1) * 4096 ≤ 4096 * 4096 := Nat.mul_le_mul_right _ hi
        omega
      refine ⟨acc, d4.1, by rw [sizeLine_eq]; exact lt, ?_⟩
      have hF4 : F4 D = none := d4.2 (d3.2 hFy)
      have er4 : ER c F4 H4 (wipe σ2 is1) (wipeE ρ4 is1) := by rw [← w3]; exact st4.2.wipe is1
      refine ⟨acc ++ [y], accP ++ [yv], ρ4, F4, by rw [List.length_append]; simp; omega, upd_same, hF4, noF no4, f3.trans st4.1.ff, ?_, er_upd er4 hF4 (noF no4), (rep.mono (gr.ff.trans (st3.1.ff.trans st4.1.ff))).append (.cons r4 .nil), ?_⟩
      · exact ((st3'.trans (st4.1.add D)).trans (Stp.put (S := Own σ3 ρ4) (o' := .lst (acc ++ [y])) d4.1)).less fun p z => z.imp (fun z => own_wipe (vs := is1) (by rw [w3]; exact z)) id
      · refine Wp.mono (lcLoop is1 f1 gt1 ge (ys.drop (j + 1)) ρ4) (fun q z => ?_) (fun _ z => z) run4
        refine Wp.mono (lcLoop2 is is1 f gt gi1 f1 gt1 ge (xs.drop (i + 1)) q.2) (fun q2 z2 => ?_) (fun _ z => z) z
        have z' : Z (accP ++ ((yv :: q.1) ++ q2.1), q2.2) := z2
        show Z ((accP ++ [yv]) ++ (q.1 ++ q2.1), q2.2)
        rw [List.append_assoc]
        exact z'

theorem lcO_turn {is is1 : List Nat} {g g1 : TG} {f f1 : GG} {gt gt1 : GT} {gi1 : GI} {ge : GE} {σ : St} {ρ1 : Env'} {F1 H1 : Hp} {D : Addr} {xs : List PV} {Z : List PV × Env' → Prop} {i : Nat} {H' : Hp} {J : It} (wk : Wk c J F1 xs) (hz : xs.length ≤ 4096) (sub : ∀ i ∈ is1, i ∈ is) (hgf : TgOk c is g f) (hgf1 : TgOk c is1 g1 f1)
    (h : LcO c is is1 f gt gi1 f1 gt1 ge σ ρ1 F1 H1 D xs Z i H') (hi : i < xs.length) : J.go i H' ∧ ∀ x Hy, J.yld i H' x Hy → g x (wipe σ is) Hy fun σ2 H2 => wipe σ2 is = wipe σ is ∧ tT c W0 gt σ2 H2 fun b H3 =>
      if b = true then tI c W0 gi1 σ2 H3 fun J1 H4 => ∃ W1 : Nat → Nat → Hp → Prop, (∃ m, W1 0 m H4) ∧ ∀ j k H, W1 j k H →
        (J1.stop j H ∧ LcO c is is1 f gt gi1 f1 gt1 ge σ ρ1 F1 H1 D xs Z (i + 1) H) ∨ (J1.go j H ∧ ∃ Nx1 : Hp → Prop, (∀ H', Nx1 H' → ∃ k', k' < k ∧ W1 (j + 1) k' H') ∧ ∀ x H', J1.yld j H x H' → g1 x (wipe σ2 is1) H' fun σ3 H5 => wipe σ3 is1 = wipe σ2 is1 ∧ tT c W0 gt1 σ3 H5 fun b H6 =>
          if b = true then tE c W0 ge σ3 H6 fun y H7 => ∃ acc, H7 D = some (.lst acc) ∧ acc.length < sizeLine ∧ Nx1 (upd H7 D (.lst (acc ++ [y]))) else Nx1 H6)
      else LcO c is is1 f gt gi1 f1 gt1 ge σ ρ1 F1 H1 D xs Z (i + 1) H3 := by
  obtain ⟨acc, accP, ρ', F', hl, hD, hF, no, st, er, rep, run⟩ := h.ex
  have hx : xs[i]? = some xs[i] := List.getElem?_eq_getElem hi
  have same : Same F1 H' := st.ff.trans er.sub
  obtain ⟨go, yl⟩ := wk.go i xs[i] H' hx same
  refine ⟨go, fun x Hy y => ?_⟩
  obtain ⟨Fy, gr, rx⟩ := yl x Hy F' st.ff er.sub y
  have ery := er.grow gr
  rw [List.drop_eq_getElem_cons hi] at run
  unfold lcLoop2 at run
  cases hf : f xs[i] (wipeE ρ' is) with
  | none => rw [hf] at run; exact run.elim
  | some ρ2 =>
    rw [hf] at run
    dsimp only at run
    refine hgf Fy Hy (wipe σ is) (wipeE ρ' is) ρ2 x xs[i] _ ery rx hf fun σ2 er2 ow2 w2 nj => ?_
    have w3 : wipe σ2 is = wipe σ is := w2.trans (wipe_idem σ is)
    refine ⟨w3, ?_⟩
    have hDy : Hy D = some (.lst acc) := gr.hh _ _ hD
    have hFy : Fy D = none := gr.nf _ _ hD hF
    have no2 : ¬ Own σ2 ρ2 D := fun z => no (ow2 D z)
    have stC : Stp F1 H1 (Own (wipe σ is) (wipeE ρ1 is)) Fy Hy (fun p => Own σ2 ρ2 p ∨ p = D) := (st.trans (gr.stp _)).less fun p z => z.imp (ow2 p) id
    refine tT_bind0 er2 run fun b ρ3 F3 H3 st3 run3 => ?_
    have d3 := st3.1.hh D _ hDy no2
    have no3 : ¬ Own σ2 ρ3 D := fun z => (st3.1.ow D z).elim no2 fun q => by rw [hDy] at q; cases q
    have st3' := stC.trans (st3.1.add D)
    have noF : ∀ {ρ : Env'}, ¬ Own σ2 ρ D → ¬ Own (wipe σ is) (wipeE ρ is) D := fun {ρ} n z => n (own_wipe (vs := is) (by rw [w3]; exact z))
    cases b with
    | false =>
      simp only [Bool.false_eq_true, if_false] at run3 ⊢
      exact ⟨acc, accP, ρ3, F3, by omega, d3.1, d3.2 hFy, noF no3, st3'.less fun p z => z.imp (fun z => own_wipe (vs := is) (by rw [w3]; exact z)) id, by rw [← w3]; exact st3.2.wipe is, rep.mono (gr.ff.trans st3.1.ff), run3⟩
    | true =>
      simp only [if_true] at run3 ⊢
      refine ⟨ρ3, F3, st3.2, (gi1 ρ3).mono (fun r run4 J1 F4 H4 st4 wk4 => ?_) (fun _ z => z.elim) run3⟩
      obtain ⟨ys, ρ4⟩ := r
      have run5 : (if ys.length ≤ 4096 then (lcLoop is1 f1 gt1 ge ys ρ4).bind fun r => (lcLoop2 is is1 f gt gi1 f1 gt1 ge (xs.drop (i + 1)) r.2).bind fun q => .ret (r.1 ++ q.1, q.2) else .stuck : Wp XE' (List PV × Env')).run (fun q => Z (accP ++ q.1, q.2)) (fun _ => False) := run4
      by_cases hy : ys.length ≤ 4096
      · rw [if_pos hy] at run5
        have d4 := st4.1.hh D _ d3.1 no3
        have no4 : ¬ Own σ2 ρ4 D := fun z => (st4.1.ow D z).elim no3 fun q => by rw [d3.1] at q; cases q
        have st4' := st3'.trans (st4.1.add D)
        have start : LcJ c is is1 f gt gi1 f1 gt1 ge σ σ2 ρ1 F1 H1 F4 D xs ys Z i 0 H4 :=
          ⟨acc, accP, ρ4, F4, by omega, d4.1, d4.2 (d3.2 hFy), fun z => no4 (own_wipe z), Same.refl F4, st4'.less fun p z => z.imp own_wipe id, st4.2.wipe is1, rep.mono (gr.ff.trans (st3.1.ff.trans st4.1.ff)), run5⟩
        refine ⟨fun j k H => k = ys.length - j ∧ j ≤ ys.length ∧ LcJ c is is1 f gt gi1 f1 gt1 ge σ σ2 ρ1 F1 H1 F4 D xs ys Z i j H, ⟨_, rfl, Nat.zero_le _, start⟩, fun j k H hW => ?_⟩
        obtain ⟨rfl, hle, hJ⟩ := hW
        by_cases hj : j < ys.length
        · obtain ⟨go1, turn1⟩ := lcJ_turn wk4 hy (by omega) hgf1 hJ hj
          exact .inr ⟨go1, fun H' => LcJ c is is1 f gt gi1 f1 gt1 ge σ σ2 ρ1 F1 H1 F4 D xs ys Z i (j + 1) H', fun H' n => ⟨ys.length - (j + 1), by omega, rfl, hj, n⟩, turn1⟩
        · have e : j = ys.length := by omega
          subst e
          obtain ⟨acc5, accP5, ρ5, F5, hl5, hD5, hF5, no5, fs5, st5, er5, rep5, run6⟩ := hJ.ex
          rw [List.drop_length] at run6
          have run7 : (lcLoop2 is is1 f gt gi1 f1 gt1 ge (xs.drop (i + 1)) ρ5).run (fun q => Z (accP5 ++ ([] ++ q.1), q.2)) (fun _ => False) := run6
          have erw : ER c F5 H (wipe σ is) (wipeE ρ5 is) := by
            have q := er5.wipe is
            rw [wipe_sub sub, wipeE_sub sub, w3] at q
            exact q
          have oww : ∀ p, Own (wipe σ is) (wipeE ρ5 is) p → Own (wipe σ2 is1) (wipeE ρ5 is1) p := fun p z => own_wipe (vs := is) (by rw [wipe_sub sub, wipeE_sub sub, w3]; exact z)
          have hb : acc5.length ≤ (i + 1) * 4096 := by rw [Nat.succ_mul]; omega
          exact .inl ⟨wk4.stop H (fs5.trans er5.sub), acc5, accP5, ρ5, F5, hb, hD5, hF5, fun z => no5 (oww D z), st5.less fun p z => z.imp (oww p) id, erw, rep5, run7⟩
      · rw [if_neg hy] at run5
        exact run5.elim
theorem vl_lc2 {elt tg iter tg1 iter1 : Expr} {ifs ifs1 : List Expr} {scope : Scope} {own : List (Str × Nat)} {is is1 : List Nat} {pos : Pos} {gi gi1 : GI} {g g1 : TG} {f f1 : GG} {gt gt1 : GT} {ge : GE} (hc : X.calm = true) (hN : X.N.Nodup) (hi : PI X tg iter (tI c W gi)) (ok : BlkOk X.N X.env.scope scope own) (hv : ∀ i ∈ is1, i ∈ own.map (·.2))
    (hg : ∀ (s : Shared) (H : Hp) (C : Addr) (cl : List (Str × Addr)) (fp : List Addr), PG (X.blk s H scope (compEnvC scope cl C X.env) fp) tg g) (hgf : TgOk c is g f)
    (ht : ∀ (s : Shared) (H : Hp) (C : Addr) (cl : List (Str × Addr)) (fp : List Addr), PTs (X.blk s H scope (compEnvC scope cl C X.env) fp) ifs (tT c W0 gt))
    (hi1 : ∀ (s : Shared) (H : Hp) (C : Addr) (cl : List (Str × Addr)) (fp : List Addr), PI (X.blk s H scope (compEnvC scope cl C X.env) fp) tg1 iter1 (tI c W0 gi1))
    (hg1 : ∀ (s : Shared) (H : Hp) (C : Addr) (cl : List (Str × Addr)) (fp : List Addr), PG (X.blk s H scope (compEnvC scope cl C X.env) fp) tg1 g1) (hgf1 : TgOk c is1 g1 f1)
    (ht1 : ∀ (s : Shared) (H : Hp) (C : Addr) (cl : List (Str × Addr)) (fp : List Addr), PTs (X.blk s H scope (compEnvC scope cl C X.env) fp) ifs1 (tT c W0 gt1))
    (he : ∀ (s : Shared) (H : Hp) (C : Addr) (cl : List (Str × Addr)) (fp : List Addr), PE (X.blk s H scope (compEnvC scope cl C X.env) fp) elt (tE c W0 ge)) (his : own.map (·.2) = is := by rfl) (hs : ∀ x, foldedSetIterable iter X.env x = pure x := by intro _; rfl) (hs1 : ∀ env x, foldedSetIterable iter1 env x = pure x := by intro _ _; rfl) :
    PE X (.ListComp elt [⟨tg, iter, ifs, 0⟩, ⟨tg1, iter1, ifs1, 0⟩] scope pos) (tL c W (lLc2 is is1 gi f gt gi1 f1 gt1 ge)) := by
  subst his
  refine imp_PE (pe_lc2 hc hN hi ok hv hg ht hi1 hg1 ht1 he hs hs1) fun σ H Q ⟨ρ, F, er, z⟩ => ?_
  generalize own.map (·.2) = is at *
  refine ⟨ρ, F, er, (gi ρ).mono (fun r h1 J F1 H1 st wk D hD => ?_) (fun _ q => q) z⟩
  dsimp only at h1
  by_cases hz : r.1.length ≤ 4096 ∧ frozenAt r.2 is = true
  · rw [if_pos hz] at h1
    have h2 : (lcLoop2 is is1 f gt gi1 f1 gt1 ge r.1 r.2).run (fun q => OkL c σ ρ F H Q (q.1, backE q.2 r.2 is)) (fun _ => False) := h1
    have hFD : F1 D = none := st.2.sub.free hD
    have g0 := (upd_growH (o := .lst []) st.2.sub hD).stp (Own (wipe σ is) (wipeE r.2 is))
    have no0 : ¬ Own (wipe σ is) (wipeE r.2 is) D := not_own_new (st.2.wipe is) hD
    have start : LcO c is is1 f gt gi1 f1 gt1 ge σ r.2 F1 H1 D r.1 (fun q => OkL c σ ρ F H Q (q.1, backE q.2 r.2 is)) 0 (upd H1 D (.lst [])) :=
      ⟨[], [], r.2, F1, Nat.zero_le _, upd_same, hFD, no0, ⟨g0.ff, g0.hh, g0.th, fun p q => q.elim .inl fun e => .inr (by rw [e]; exact hD)⟩, er_upd (st.2.wipe is) hFD no0, .nil, h2⟩
    refine ⟨fun i m H' => m = r.1.length - i ∧ i ≤ r.1.length ∧ LcO c is is1 f gt gi1 f1 gt1 ge σ r.2 F1 H1 D r.1 (fun q => OkL c σ ρ F H Q (q.1, backE q.2 r.2 is)) i H', ⟨_, rfl, Nat.zero_le _, start⟩, fun i m H' hW => ?_⟩
    obtain ⟨rfl, hle, h⟩ := hW
    by_cases hi : i < r.1.length
    · obtain ⟨go, turn⟩ := lcO_turn wk hz.1 hv hgf hgf1 h hi
      exact .inr ⟨go, fun H' => LcO c is is1 f gt gi1 f1 gt1 ge σ r.2 F1 H1 D r.1 (fun q => OkL c σ ρ F H Q (q.1, backE q.2 r.2 is)) (i + 1) H', fun H' n => ⟨r.1.length - (i + 1), by omega, rfl, hi, n⟩, turn⟩
    · have e : i = r.1.length := by omega
      subst e
      obtain ⟨acc, accP, ρ', F', hl, hDv, hF, no, st', er', rep, run⟩ := h.ex
      rw [List.drop_length] at run
      have q : OkL c σ ρ F H Q (accP ++ [], backE ρ' r.2 is) := run
      rw [List.append_nil] at q
      obtain ⟨er2, ow2⟩ := er_back' st.2 st'.ff er' hz.2
      rw [backE_wipe] at er2 ow2
      refine .inl ⟨wk.stop H' (st'.ff.trans er'.sub), q D acc F' H' ⟨st.1.trans ((st'.more fun p z => own_wipe z).less fun p z => .inl (ow2 p z)), er2⟩ ?_ hF hDv (fun z => no (ow2 D z)) rep⟩
      cases e : H D with
      | none => rfl
      | some o =>
        obtain ⟨o', e'⟩ := st.1.th D o e
        rw [hD] at e'
        cases e'
  · rw [if_neg hz] at h1
    exact h1.elim
end
end VL

set_option Elab.async false
set_option linter.all false
set_option maxRecDepth 100000
set_option maxHeartbeats 1000000
/-! VL, part 26: name = {k: v for ..}. -/
namespace VL
open PySem PySem.Spec PyProof.Rows L2
section
variable {X : Cx}
theorem sw_dict {kx vx : Expr} {gs : List Comprehension} {scope : Scope} {pos py : Pos} {y : Str} {l : Nat} {env : Env} (hk : env.scope.kind = .function) (hy : env.scope.names.lookup y = some .local) (hl : (py.line == pos.line) = true)
    (ha : (scope.names.any fun (n, k) => n == y && (k == .local || k == .cell)) = false) : swapsWith (.DictComp kx vx gs scope pos) (some (.Name y py)) l env = pure true := by
  have h1 : env.kindOf y = some .local := hy
  have h2 : env.blockKind = .function := by unfold Env.blockKind; rw [hk]; rfl
  unfold swapsWith
  simp only [h2, h1, ha, Expr.pos, hl]; rfl
theorem ps_setD {i : Nat} {y : Str} {py : Pos} {kx vx tg iter : Expr} {ifs : List Expr} {scope : Scope} {own : List (Str × Nat)} {pos spos : Pos} {wi : TI} {g : TG} {tt : TT} {tk tv : TE} (hc : X.calm = true) (hN : X.N.Nodup) (hy : X.N[i]? = some y) (hyl : X.env.scope.names.lookup y = some .local)
    (hsw : swapsWith (.DictComp kx vx [⟨tg, iter, ifs, 0⟩] scope pos) (some (.Name y py)) spos.line X.env = pure true) (hi : PI X tg iter wi) (ok : BlkOk X.N X.env.scope scope own)
    (hg : ∀ (s : Shared) (H : Hp) (C : Addr) (cl : List (Str × Addr)) (fp : List Addr), PG (X.blk s H scope (compEnvC scope cl C X.env) fp) tg g) (ht : ∀ (s : Shared) (H : Hp) (C : Addr) (cl : List (Str × Addr)) (fp : List Addr), PTs (X.blk s H scope (compEnvC scope cl C X.env) fp) ifs tt)
    (hk : ∀ (s : Shared) (H : Hp) (C : Addr) (cl : List (Str × Addr)) (fp : List Addr), PE (X.blk s H scope (compEnvC scope cl C X.env) fp) kx tk)
    (he : ∀ (s : Shared) (H : Hp) (C : Addr) (cl : List (Str × Addr)) (fp : List Addr), PE (X.blk s H scope (compEnvC scope cl C X.env) fp) vx tv) (hs : ∀ x, foldedSetIterable iter X.env x = pure x := by intro _; rfl) :
    PS X (.Assign [.Name y py] (.DictComp kx vx [⟨tg, iter, ifs, 0⟩] scope pos) spos) (tAsg (tDc wi g tt tk tv (own.map (·.2))) (gName i)) := ⟨fun pins s σ H D I h => by
  rw [exec_Assign_Name_used _ _ _ _ hsw]
  refine wpAny_bind (wpAny_standAt (wpAny_bind ?_)); show wpAny _ X.A (do let _ ← comprehension (.DictComp kx vx [⟨tg, iter, ifs, 0⟩] scope pos) scope X.env (firstIterPos [⟨tg, iter, ifs, 0⟩] pos) newDict false (eval iter X.env) (some (assign (.Name y py) X.env))) _ _ s
  have h' : tDc wi g tt tk tv (own.map (·.2)) σ H (fun x H1 => gName i x σ H1 D.nx) := h
  refine wpAny_bind (thn (dc_core (Qf := fun _ s' => SP X pins D .next s') hc hN I hi ok hg ht hk he hs h' fun L C s' m H' I' q hn f => ?_) fun _ s' hq => wpAny_pure (wpAny_pure hq))
  show wpAny _ _ (assign (.Name y py) X.env (.ref L)) _ _ _
  obtain ⟨f0, f1, f2, f3, f4, f5⟩ := f
  refine wpAny_assign_Name (store_ok2 (v := V.ref L) I' hN hy (.inl hyl) rfl (fun s2 I2 ⟨a, sb, ha⟩ => ⟨m, hn.sameBut sb (ha.elim (fun z => by rw [z]; exact f1) fun z e => f4 y a z e.symm), fun h3 sb3 => ⟨_, H', I2.turned (t' := s2.toks) (fun b o hb e => (sb3.2 b hb).trans e) f0 f1 f3 f4 f5, q⟩⟩) (.inr hyl))⟩
end
/-! ### its reading -/
def putP (kvs : List (Key × PV)) (k : Key) (v : PV) : List (Key × PV) := if (kvs.any fun kv => decide (kv.1 = k)) = true then kvs.map (fun kv => if kv.1 = k then (kv.1, v) else kv) else kvs ++ [(k, v)]
theorem RepD.any {c : Cn} {F : Hp} (k : Key) : ∀ {vs : List (Key × V)} {xs : List (Key × PV)}, RepD c F vs xs → (vs.any fun kv => decide (kv.1 = k)) = xs.any fun kv => decide (kv.1 = k)
  | _, _, .nil => rfl
  | _, _, .cons _ r => by rw [List.any_cons, List.any_cons, RepD.any k r]
theorem RepD.mapK {c : Cn} {F : Hp} {k : Key} {w : V} {v : PV} (h : Rep c F w v) : ∀ {vs : List (Key × V)} {xs : List (Key × PV)}, RepD c F vs xs → RepD c F (vs.map fun kv => if kv.1 = k then (kv.1, w) else kv) (xs.map fun kv => if kv.1 = k then (kv.1, v) else kv)
  | _, _, .nil => .nil
  | _, _, @RepD.cons _ _ j u x vs xs g r => by
    rw [List.map_cons, List.map_cons]
    by_cases e : j = k
    · simp only [e, if_true]
      exact .cons h (RepD.mapK h r)
    · simp only [e, if_false]
      exact .cons g (RepD.mapK h r)
theorem RepD.append {c : Cn} {F : Hp} {k : Key} {w : V} {v : PV} (h : Rep c F w v) : ∀ {vs : List (Key × V)} {xs : List (Key × PV)}, RepD c F vs xs → RepD c F (vs ++ [(k, w)]) (xs ++ [(k, v)])
  | _, _, .nil => .cons h .nil
  | _, _, .cons g r => .cons g (RepD.append h r)
theorem RepD.put {c : Cn} {F : Hp} {k : Key} {w : V} {v : PV} (h : Rep c F w v) {vs : List (Key × V)} {xs : List (Key × PV)} (r : RepD c F vs xs) : RepD c F (putK vs k w) (putP xs k v) := by
  unfold putK putP
  rw [r.any k]
  split
  · exact r.mapK h
  · exact r.append h
theorem putK_len (vs : List (Key × V)) (k : Key) (w : V) : (putK vs k w).length ≤ vs.length + 1 := by
  unfold putK
  split
  · rw [List.length_map]; omega
  · rw [List.length_append]; simp
def dcLoop (is : List Nat) (f : GG) (gt : GT) (gk gv : GE) : List PV → List (Key × PV) → Env' → Wp XE' (List (Key × PV) × Env')
  | [], kvs, ρ => .ret (kvs, ρ)
  | x :: xs, kvs, ρ => match f x (wipeE ρ is) with
    | none => .stuck
    | some ρ1 => (gt ρ1).bind fun b => if b.1 = true then (gk b.2).bind fun y => match keyP y.1 with
        | some k => (gv y.2).bind fun z => dcLoop is f gt gk gv xs (putP kvs k z.1) z.2
        | none => .stuck
      else dcLoop is f gt gk gv xs kvs b.2
def eDc (is : List Nat) (gi : GI) (f : GG) (gt : GT) (gk gv : GE) : GE := fun ρ => (gi ρ).bind fun a => if a.1.length ≤ sizeLine ∧ frozenAt a.2 is = true then (noEx (dcLoop is f gt gk gv a.1 [] a.2)).bind fun q => .ret (.dic none q.1, backE q.2 a.2 is) else .stuck
section
variable {c : Cn} {X : Cx} {W : WX} {pn : Nat → Bool}
structure DcAt (c : Cn) (is : List Nat) (f : GG) (gt : GT) (gk gv : GE) (σ : St) (ρ1 : Env') (F1 H1 : Hp) (D : Addr) (xs : List PV) (Z : List (Key × PV) × Env' → Prop) (i : Nat) (H' : Hp) : Prop where
  ex : ∃ (acc : List (Key × V)) (accP : List (Key × PV)) (ρ' : Env') (F' : Hp), acc.length ≤ i ∧ H' D = some (.dK acc) ∧ F' D = none ∧ ¬ Own (wipe σ is) (wipeE ρ' is) D ∧
    Stp F1 H1 (Own (wipe σ is) (wipeE ρ1 is)) F' H' (fun p => Own (wipe σ is) (wipeE ρ' is) p ∨ p = D) ∧ ER c F' H' (wipe σ is) (wipeE ρ' is) ∧ RepD c F' acc accP ∧
    (dcLoop is f gt gk gv (xs.drop i) accP ρ').run Z (fun _ => False)
theorem dc_turn {is : List Nat} {g : TG} {f : GG} {gt : GT} {gk gv : GE} {σ : St} {ρ1 : Env'} {F1 H1 : Hp} {D : Addr} {xs : List PV} {Z : List (Key × PV) × Env' → Prop} {i : Nat} {H' : Hp} {J : It} (wk : Wk c J F1 xs) (hz : xs.length ≤ sizeLine) (hgf : TgOk c is g f)
    (h : DcAt c is f gt gk gv σ ρ1 F1 H1 D xs Z i H') (hi : i < xs.length) : J.go i H' ∧ ∀ x Hy, J.yld i H' x Hy → g x (wipe σ is) Hy fun σ2 H2 => wipe σ2 is = wipe σ is ∧ tT c W0 gt σ2 H2 fun b H3 =>
      if b = true then tE c W0 gk σ2 H3 fun y H4 => tE c W0 gv σ2 H4 fun z H5 => ∃ kvs k, y = kV k ∧ H5 D = some (.dK kvs) ∧ kvs.length < sizeLine ∧ DcAt c is f gt gk gv σ ρ1 F1 H1 D xs Z (i + 1) (upd H5 D (.dK (putK kvs k z))) else DcAt c is f gt gk gv σ ρ1 F1 H1 D xs Z (i + 1) H3 := by
  obtain ⟨acc, accP, ρ', F', hl, hD, hF, no, st, er, rep, run⟩ := h.ex
  have hx : xs[i]? = some xs[i] := List.getElem?_eq_getElem hi
  obtain ⟨go, yl⟩ := wk.go i xs[i] H' hx (st.ff.trans er.sub)
  refine ⟨go, fun x Hy y => ?_⟩
  obtain ⟨Fy, gr, rx⟩ := yl x Hy F' st.ff er.sub y
  have ery := er.grow gr
  rw [List.drop_eq_getElem_cons hi] at run
  unfold dcLoop at run
  cases hf : f xs[i] (wipeE ρ' is) with
  | none => rw [hf] at run; exact run.elim
  | some ρ2 =>
    rw [hf] at run
    dsimp only at run
    refine hgf Fy Hy (wipe σ is) (wipeE ρ' is) ρ2 x xs[i] _ ery rx hf fun σ2 er2 ow2 w2 nj => ?_
    have w3 : wipe σ2 is = wipe σ is := w2.trans (wipe_idem σ is)
    refine ⟨w3, ?_⟩
    have hDy : Hy D = some (.dK acc) := gr.hh _ _ hD
    have hFy : Fy D = none := gr.nf _ _ hD hF
    have no2 : ¬ Own σ2 ρ2 D := fun z => no (ow2 D z)
    have stC : Stp F1 H1 (Own (wipe σ is) (wipeE ρ1 is)) Fy Hy (fun p => Own σ2 ρ2 p ∨ p = D) := (st.trans (gr.stp _)).less fun p z => z.imp (ow2 p) id
    refine tT_bind0 er2 run fun b ρ3 F3 H3 st3 run3 => ?_
    have d3 := st3.1.hh D _ hDy no2
    have no3 : ¬ Own σ2 ρ3 D := fun z => (st3.1.ow D z).elim no2 fun q => by rw [hDy] at q; cases q
    have st3' := stC.trans (st3.1.add D)
    have noF : ∀ {ρ : Env'}, ¬ Own σ2 ρ D → ¬ Own (wipe σ is) (wipeE ρ is) D := fun {ρ} n z => n (own_wipe (vs := is) (by rw [w3]; exact z))
    cases b with
    | false =>
      simp only [Bool.false_eq_true, if_false] at run3 ⊢
      exact ⟨acc, accP, ρ3, F3, by omega, d3.1, d3.2 hFy, noF no3, st3'.less fun p z => z.imp (fun z => own_wipe (vs := is) (by rw [w3]; exact z)) id, by rw [← w3]; exact st3.2.wipe is, rep.mono (gr.ff.trans st3.1.ff), run3⟩
    | true =>
      simp only [if_true] at run3 ⊢
      refine tE_bind0 st3.2 run3 fun kv ρ4 y F4 H4 st4 r4 run4 => ?_
      have d4 := st4.1.hh D _ d3.1 no3
      have no4 : ¬ Own σ2 ρ4 D := fun z => (st4.1.ow D z).elim no3 fun q => by rw [d3.1] at q; cases q
      cases hk : keyP kv with
      | none =>
        have run5 : (match keyP kv with
          | some k => (gv ρ4).bind fun z => dcLoop is f gt gk gv (xs.drop (i + 1)) (putP accP k z.1) z.2
          | none => .stuck : Wp XE' (List (Key × PV) × Env')).run Z (fun _ => False) := run4
        rw [hk] at run5
        exact run5.elim
      | some k =>
        have run5 : (match keyP kv with
          | some k => (gv ρ4).bind fun z => dcLoop is f gt gk gv (xs.drop (i + 1)) (putP accP k z.1) z.2
          | none => .stuck : Wp XE' (List (Key × PV) × Env')).run Z (fun _ => False) := run4
        rw [hk] at run5
        refine tE_bind0 st4.2 run5 fun zv ρ5 z F5 H5 st5 r5 run6 => ?_
        have d5 := st5.1.hh D _ d4.1 no4
        have no5 : ¬ Own σ2 ρ5 D := fun z => (st5.1.ow D z).elim no4 fun q => by rw [d4.1] at q; cases q
        refine ⟨acc, k, keyP_ok r4 hk, d5.1, by omega, ?_⟩
        have hF5 : F5 D = none := d5.2 (d4.2 (d3.2 hFy))
        have er5 : ER c F5 H5 (wipe σ is) (wipeE ρ5 is) := by rw [← w3]; exact st5.2.wipe is
        have rep5 := rep.mono (gr.ff.trans (st3.1.ff.trans (st4.1.ff.trans st5.1.ff)))
        refine ⟨putK acc k z, putP accP k zv, ρ5, F5, by have := putK_len acc k z; omega, upd_same, hF5, noF no5, ?_, er_upd er5 hF5 (noF no5), rep5.put r5, run6⟩
        exact (((st3'.trans (st4.1.add D)).trans (st5.1.add D)).trans (Stp.put (S := Own σ2 ρ5) (o' := .dK (putK acc k z)) d5.1)).less fun p z => z.imp (fun z => own_wipe (vs := is) (by rw [w3]; exact z)) id
theorem dc_read {is : List Nat} {gi : GI} {g : TG} {f : GG} {gt : GT} {gk gv : GE} (hgf : TgOk c is g f) {σ : St} {H : Hp} {Q : VK} (z : tE c W (eDc is gi f gt gk gv) σ H Q) : tDc (tI c W gi) g (tT c W0 gt) (tE c W0 gk) (tE c W0 gv) is σ H Q := by
  obtain ⟨ρ, F, er, z⟩ := z
  refine ⟨ρ, F, er, (gi ρ).mono (fun r h1 J F1 H1 st wk D hD => ?_) (fun _ q => q) z⟩
  dsimp only at h1
  by_cases hz : r.1.length ≤ sizeLine ∧ frozenAt r.2 is = true
  · rw [if_pos hz] at h1
    have h2 : (dcLoop is f gt gk gv r.1 [] r.2).run (fun q => OkE c σ ρ F H Q (.dic none q.1, backE q.2 r.2 is)) (fun _ => False) := h1
    have hFD : F1 D = none := st.2.sub.free hD
    have g0 := (upd_growH (o := .dK []) st.2.sub hD).stp (Own (wipe σ is) (wipeE r.2 is))
    have no0 : ¬ Own (wipe σ is) (wipeE r.2 is) D := not_own_new (st.2.wipe is) hD
    have start : DcAt c is f gt gk gv σ r.2 F1 H1 D r.1 (fun q => OkE c σ ρ F H Q (.dic none q.1, backE q.2 r.2 is)) 0 (upd H1 D (.dK [])) :=
      ⟨[], [], r.2, F1, Nat.le_refl _, upd_same, hFD, no0, ⟨g0.ff, g0.hh, g0.th, fun p q => q.elim .inl fun e => .inr (by rw [e]; exact hD)⟩, er_upd (st.2.wipe is) hFD no0, .nil, h2⟩
    refine ⟨fun i m H' => m = r.1.length - i ∧ i ≤ r.1.length ∧ DcAt c is f gt gk gv σ r.2 F1 H1 D r.1 (fun q => OkE c σ ρ F H Q (.dic none q.1, backE q.2 r.2 is)) i H', ⟨_, rfl, Nat.zero_le _, start⟩, fun i m H' hW => ?_⟩
    obtain ⟨rfl, hle, h⟩ := hW
    by_cases hi : i < r.1.length
    · obtain ⟨go, turn⟩ := dc_turn wk hz.1 hgf h hi
      exact .inr ⟨go, fun H' => DcAt c is f gt gk gv σ r.2 F1 H1 D r.1 (fun q => OkE c σ ρ F H Q (.dic none q.1, backE q.2 r.2 is)) (i + 1) H', fun H' n => ⟨r.1.length - (i + 1), by omega, rfl, hi, n⟩, turn⟩
    · have e : i = r.1.length := by omega
      subst e
      obtain ⟨acc, accP, ρ', F', hl, hDv, hF, no, st', er', rep, run⟩ := h.ex
      rw [List.drop_length] at run
      have q : OkE c σ ρ F H Q (.dic none accP, backE ρ' r.2 is) := run
      obtain ⟨er2, ow2⟩ := er_back' st.2 st'.ff er' hz.2
      rw [backE_wipe] at er2 ow2
      have nD : ¬ Own σ (backE ρ' r.2 is) D := fun z => no (ow2 D z)
      have fz := freeze_grow er2.sub hF hDv
      have hn : H D = none := by
        cases e : H D with
        | none => rfl
        | some o =>
          obtain ⟨o', e'⟩ := st.1.th D o e
          rw [hD] at e'
          cases e'
      have s1 := st.1.trans ((st'.more fun p z => own_wipe z).less fun p z => .inl (ow2 p z))
      refine .inl ⟨wk.stop H' (st'.ff.trans er'.sub), q (.ref D) (upd F' D (.dK acc)) H' ⟨⟨s1.ff.trans fz.1, fun b o h n => ?_, s1.th, s1.ow⟩, freeze_er er2 hF hDv nD⟩ (.dic upd_same (rep.mono fz.1) fun _ z => nomatch z)⟩
      obtain ⟨a1, a2⟩ := s1.hh b o h n
      exact ⟨a1, fun z => by rw [upd_ne (ne_of_none h hn)]; exact a2 z⟩
  · rw [if_neg hz] at h1
    exact h1.elim
theorem vs_setDc {kx vx tg iter : Expr} {ifs : List Expr} {scope : Scope} {own : List (Str × Nat)} {is : List Nat} {pos spos py : Pos} {gi : GI} {g : TG} {f : GG} {gt : GT} {gk gv : GE} {i : Nat} {y : Str} (hc : X.calm = true) (hN : X.N.Nodup) (hy : X.N[i]? = some y) (hyl : X.env.scope.names.lookup y = some .local) (hp : pn i = false)
    (hsw : swapsWith (.DictComp kx vx [⟨tg, iter, ifs, 0⟩] scope pos) (some (.Name y py)) spos.line X.env = pure true) (hi : PI X tg iter (tI c W gi)) (ok : BlkOk X.N X.env.scope scope own)
    (hg : ∀ (s : Shared) (H : Hp) (C : Addr) (cl : List (Str × Addr)) (fp : List Addr), PG (X.blk s H scope (compEnvC scope cl C X.env) fp) tg g) (hgf : TgOk c is g f)
    (ht : ∀ (s : Shared) (H : Hp) (C : Addr) (cl : List (Str × Addr)) (fp : List Addr), PTs (X.blk s H scope (compEnvC scope cl C X.env) fp) ifs (tT c W0 gt))
    (hk : ∀ (s : Shared) (H : Hp) (C : Addr) (cl : List (Str × Addr)) (fp : List Addr), PE (X.blk s H scope (compEnvC scope cl C X.env) fp) kx (tE c W0 gk))
    (he : ∀ (s : Shared) (H : Hp) (C : Addr) (cl : List (Str × Addr)) (fp : List Addr), PE (X.blk s H scope (compEnvC scope cl C X.env) fp) vx (tE c W0 gv)) (his : own.map (·.2) = is := by rfl) (hs : ∀ x, foldedSetIterable iter X.env x = pure x := by intro _; rfl) :
    PS X (.Assign [.Name y py] (.DictComp kx vx [⟨tg, iter, ifs, 0⟩] scope pos) spos) (tS c pn W (sSet i (eDc is gi f gt gk gv))) := by
  subst his
  exact imp_PS (ps_setD hc hN hy hyl hsw hi ok hg ht hk he hs) fun D σ H ⟨ρ, F, er, z⟩ => dc_read hgf (tE_bindS er z fun v ρ1 w F1 H1 st rep h1 => h1 _ F1 H1
    ⟨(Stp.refl F1 H1 _).less fun p q => own_set q, st.2.set rep, (fun j hj => List.getElem?_set_ne (fun q => by subst q; rw [hp] at hj; cases hj)), List.length_set⟩)
end
end VL

set_option Elab.async false
set_option linter.all false
set_option maxRecDepth 100000
set_option maxHeartbeats 1000000
/-! VL, part 27: < of tuples; several names at once, own lists among them; the facts of an own class. -/
namespace VL
open PySem PySem.Spec PyProof.Rows L2

/-! ### < : ints, tuples of ints -/
def pLtT : PV → PV → Option PV
  | .int i, .int j => some (.bl (decide (i < j)))
  | .tup xs, .tup ys => (intsOf xs).bind fun ns => (intsOf ys).map fun ms => .bl (HT.lexLt ns ms)
  | _, _ => none
def rLtA (K : PySem.W.Frag) : R2 := fun x y H Q => (rI0 fun i j => .bl (decide (i < j))) x y H Q ∨ rLtT K x y H Q
section
variable {c : Cn} {X : Cx} {W : WX} {pn : Nat → Bool}
theorem op_ltA (hu : X.A.units < cLine) : OpR X (compareOp .Lt) (rLtA X.K) := op_lt.or (op_ltT hu)
theorem o_ltA (hk : c.K = X.K) : Op2 c pLtT (rLtA X.K) := fun F H x y a b v Q s ra rb e q => by
  cases ra with
  | int i =>
    cases rb with
    | int j => cases e; exact .inl ⟨i, j, rfl, rfl, q _ F H (Grow.refl s) (.bl _)⟩
    | _ => cases e
  | @tup p vs xs h1 r1 =>
    cases rb with
    | @tup p2 vs2 ys h2 r2 =>
      obtain ⟨ns, e1, e2⟩ := Option.bind_eq_some_iff.mp (show (intsOf xs).bind (fun ns => (intsOf ys).map fun ms => PV.bl (HT.lexLt ns ms)) = some v from e)
      obtain ⟨ms, e3, rfl⟩ := Option.map_eq_some_iff.mp e2
      have n1 := intsOf_ok r1 e1
      have n2 := intsOf_ok r2 e3
      subst n1
      subst n2
      exact .inr ⟨p, p2, ns, ms, rfl, rfl, .inl (.inl (s _ _ h1)), .inl (.inl (s _ _ h2)), q _ F H (Grow.refl s) (.bl _)⟩
    | _ => cases e
  | _ => cases rb <;> cases e
theorem hu0 {k : Nat} {A : Around} (hr : Room k A) : A.units < cLine := by have := hr.un; omega

/-! ### a, b = .. with new lists of one's own -/
def sParLL (i j : Nat) (g h : GL) : GS := fun ρ => (g ρ).bind fun a => (h a.2).bind fun b => .ret (.nx ((b.2.set i (.ow a.1)).set j (.ow b.1)))
def sParEL (i j : Nat) (g : GE) (h : GL) : GS := fun ρ => (g ρ).bind fun a => (h a.2).bind fun b => .ret (.nx ((b.2.set i (.fz a.1)).set j (.ow b.1)))
def sParLE (i j : Nat) (g : GL) (h : GE) : GS := fun ρ => (g ρ).bind fun a => (h a.2).bind fun b => .ret (.nx ((b.2.set i (.ow a.1)).set j (.fz b.1)))
variable {i j : Nat} {x y : Str} {a b : Expr} {px py pt pos : Pos} {kt k2 : _} {pt2 : _} {ga gb : GE} {la lb : GL}
theorem set_pin {σ : St} {u v : Option V} (hpi : pn i = false) (hpj : pn j = false) : ∀ k, pn k = true → ((σ.set i u).set j v)[k]? = σ[k]? := fun k hk => by
  have n1 : j ≠ k := fun q => by rw [← q, hpj] at hk; cases hk
  have n2 : i ≠ k := fun q => by rw [← q, hpi] at hk; cases hk
  rw [List.getElem?_set_ne n1, List.getElem?_set_ne n2]
theorem vs_parLL {k2 : Nat} {kt : Nat} {pt2 : Pos} (hc : X.calm = true) (hN : X.N.Nodup) (hi : X.N[i]? = some x) (hj : X.N[j]? = some y) (hij : i ≠ j) (hpi : pn i = false) (hpj : pn j = false)
    (hx : X.env.scope.names.lookup x = some .local) (hy : X.env.scope.names.lookup y = some .local) (ha : PE X a (tL c W la)) (hb : PE X b (tL c W lb)) (hw : swappedStores [.Tuple [.Name x px, .Name y py] kt pt] (.Tuple [a, b] k2 pt2) X.env = pure (some [x, y]))
    (he : starEach [a, b] X.env = (false, eval a X.env) :: starEach [b] X.env := by rfl) (he2 : starEach [b] X.env = (false, eval b X.env) :: starEach [] X.env := by rfl) (hs : swapsWithSole [.Tuple [.Name x px, .Name y py] kt pt] (.Tuple [a, b] k2 pt2) pos.line X.env = pure false := by rfl) :
    PS X (.Assign [.Tuple [.Name x px, .Name y py] kt pt] (.Tuple [a, b] k2 pt2) pos) (tS c pn W (sParLL i j la lb)) :=
  imp_PS (ps_par hc hN hi hj hij hx hy (pa_cons ha (pa_cons hb pa_nil he2) he) hw hs) fun D σ H ⟨ρ, F, er, z⟩ =>
    ⟨ρ, F, er, (la ρ).mono (fun r h1 p vs F1 H1 st hn hF hH no rep => ⟨r.2, F1, st.2, (lb r.2).mono (fun r2 h2 q ws F2 H2 st2 hn2 hF2 hH2 no2 rep2 => by
      obtain ⟨p1, p2⟩ := st2.1.hh p _ hH no
      have no' : ¬ Own σ r2.2 p := fun z => (st2.1.ow p z).elim no fun e => by rw [hH] at e; cases e
      obtain ⟨e1, o1⟩ := er_own (i := i) st2.2 (p2 hF) p1 no' (rep.mono st2.1.ff)
      have qp : q ≠ p := fun e => by rw [e, hH] at hn2; cases hn2
      obtain ⟨e2, o2⟩ := er_own (i := j) e1 hF2 hH2 (fun z => (o1 q z).elim no2 qp) rep2
      have s12 := (st.trans st2).1
      refine ⟨.ref p, .ref q, rfl, h2 _ F2 H2 ⟨⟨s12.ff, s12.hh, s12.th, fun b z => ?_⟩, e2, set_pin hpi hpj, by rw [List.length_set, List.length_set]⟩⟩
      rcases o2 b z with z | z
      · rcases o1 b z with z | z
        · exact s12.ow b z
        · subst z; exact .inr hn
      · subst z; exact .inr (none_of_th st hn2)) (fun _ q => (ErS.step st.s q).e) h1⟩) (fun _ q => q.e) z⟩
theorem vs_parEL {k2 : Nat} {kt : Nat} {pt2 : Pos} (hc : X.calm = true) (hN : X.N.Nodup) (hi : X.N[i]? = some x) (hj : X.N[j]? = some y) (hij : i ≠ j) (hpi : pn i = false) (hpj : pn j = false)
    (hx : X.env.scope.names.lookup x = some .local) (hy : X.env.scope.names.lookup y = some .local) (ha : PE X a (tE c W ga)) (hb : PE X b (tL c W lb)) (hw : swappedStores [.Tuple [.Name x px, .Name y py] kt pt] (.Tuple [a, b] k2 pt2) X.env = pure (some [x, y]))
    (he : starEach [a, b] X.env = (false, eval a X.env) :: starEach [b] X.env := by rfl) (he2 : starEach [b] X.env = (false, eval b X.env) :: starEach [] X.env := by rfl) (hs : swapsWithSole [.Tuple [.Name x px, .Name y py] kt pt] (.Tuple [a, b] k2 pt2) pos.line X.env = pure false := by rfl) :
    PS X (.Assign [.Tuple [.Name x px, .Name y py] kt pt] (.Tuple [a, b] k2 pt2) pos) (tS c pn W (sParEL i j ga lb)) :=
  imp_PS (ps_par hc hN hi hj hij hx hy (pa_cons ha (pa_cons hb pa_nil he2) he) hw hs) fun D σ H ⟨ρ, F, er, z⟩ =>
    ⟨ρ, F, er, (ga ρ).mono (fun r h1 w F1 H1 st rep => ⟨r.2, F1, st.2, (lb r.2).mono (fun r2 h2 q ws F2 H2 st2 hn2 hF2 hH2 no2 rep2 => by
      have e1 := st2.2.set (i := i) (rep.mono st2.1.ff)
      obtain ⟨e2, o2⟩ := er_own (i := j) e1 hF2 hH2 (fun z => no2 (own_set z)) rep2
      have s12 := (st.trans st2).1
      refine ⟨w, .ref q, rfl, h2 _ F2 H2 ⟨⟨s12.ff, s12.hh, s12.th, fun b z => ?_⟩, e2, set_pin hpi hpj, by rw [List.length_set, List.length_set]⟩⟩
      rcases o2 b z with z | z
      · exact s12.ow b (own_set z)
      · subst z; exact .inr (none_of_th st hn2)) (fun _ q => (ErS.step st.s q).e) h1⟩) (fun _ q => q.e) z⟩
theorem vs_parLE {k2 : Nat} {kt : Nat} {pt2 : Pos} (hc : X.calm = true) (hN : X.N.Nodup) (hi : X.N[i]? = some x) (hj : X.N[j]? = some y) (hij : i ≠ j) (hpi : pn i = false) (hpj : pn j = false)
    (hx : X.env.scope.names.lookup x = some .local) (hy : X.env.scope.names.lookup y = some .local) (ha : PE X a (tL c W la)) (hb : PE X b (tE c W gb)) (hw : swappedStores [.Tuple [.Name x px, .Name y py] kt pt] (.Tuple [a, b] k2 pt2) X.env = pure (some [x, y]))
    (he : starEach [a, b] X.env = (false, eval a X.env) :: starEach [b] X.env := by rfl) (he2 : starEach [b] X.env = (false, eval b X.env) :: starEach [] X.env := by rfl) (hs : swapsWithSole [.Tuple [.Name x px, .Name y py] kt pt] (.Tuple [a, b] k2 pt2) pos.line X.env = pure false := by rfl) :
    PS X (.Assign [.Tuple [.Name x px, .Name y py] kt pt] (.Tuple [a, b] k2 pt2) pos) (tS c pn W (sParLE i j la gb)) :=
  imp_PS (ps_par hc hN hi hj hij hx hy (pa_cons ha (pa_cons hb pa_nil he2) he) hw hs) fun D σ H ⟨ρ, F, er, z⟩ =>
    ⟨ρ, F, er, (la ρ).mono (fun r h1 p vs F1 H1 st hn hF hH no rep => ⟨r.2, F1, st.2, (gb r.2).mono (fun r2 h2 y F2 H2 st2 rep2 => by
      obtain ⟨p1, p2⟩ := st2.1.hh p _ hH no
      have no' : ¬ Own σ r2.2 p := fun z => (st2.1.ow p z).elim no fun e => by rw [hH] at e; cases e
      obtain ⟨e1, o1⟩ := er_own (i := i) st2.2 (p2 hF) p1 no' (rep.mono st2.1.ff)
      have e2 := e1.set (i := j) rep2
      have s12 := (st.trans st2).1
      refine ⟨.ref p, y, rfl, h2 _ F2 H2 ⟨⟨s12.ff, s12.hh, s12.th, fun b z => ?_⟩, e2, set_pin hpi hpj, by rw [List.length_set, List.length_set]⟩⟩
      rcases o1 b (own_set z) with z | z
      · exact s12.ow b z
      · subst z; exact .inr hn) (fun _ q => (ErS.step st.s q).e) h1⟩) (fun _ q => q.e) z⟩
end
/-! ### the facts of an own class, as one test -/
def names7 : List String := ["NoneType", "bool", "int", "str", "tuple", "list", "dict"]
def clsB (K : PySem.W.Frag) (x : Str) (fs : List Str) : Bool :=
  PySem.W.plainGet K (He.ga K x) Str.empty && (PySem.W.hasDictIn K (He.ga K x) && (PySem.W.plainOver K (He.ga K x) && (decide (PySem.W.findIn K (.ref (He.ga K x)) "__setattr__" = some (some (.builtin "object.__setattr__"))) &&
  (PySem.W.makesIn K (He.ga K x) && (decide (PySem.W.findIn K (.ref (He.ga K x)) "__init__" = some (some (.ref (He.ma K (He.ga K x) "__init__")))) && (PySem.W.isFn K (.ref (He.ma K (He.ga K x) "__init__")) && (PySem.W.keepIn K (.ref (He.ga K x)) &&
  (fs.all (fun f => decide (PySem.W.findIn K (.ref (He.ga K x)) f = some none)) && (decide (PySem.W.findIn K (.ref (He.ga K x)) "__class__" = some (some (.builtin "object.__class__"))) &&
  (decide (PySem.W.specialIn K (.builtin "object.__class__") "__get__" = some (some (.builtin "getset_descriptor.__get__"))) && (decide (PySem.W.takesIn K (.builtin "object.__class__") = some true) && (decide (PySem.W.mroIn K (He.ga K x) (.type "object") = some true) &&
  (decide (PySem.W.kitOne K (.ref (He.ga K x)) (.ref (He.ga K x)) = some true) && names7.all (fun t => decide (PySem.W.kitOne K (.type t) (.ref (He.ga K x)) = some false)))))))))))))))
theorem clsB_ok {K : PySem.W.Frag} {x : Str} {fs : List Str} (h : clsB K x fs = true) : ClsT K (He.ga K x) (He.ma K (He.ga K x) "__init__") fs ∧ KitC K (He.ga K x) := by
  unfold clsB at h
  simp only [Bool.and_eq_true, decide_eq_true_eq, List.all_eq_true] at h
  obtain ⟨h1, h2, h3, h4, h5, h6, h7, h8, h9, h10, h11, h12, h13, h14, h15⟩ := h
  exact ⟨⟨⟨h1, h2, h3, h4⟩, ⟨h5, h6, h7, h8⟩, h9, h10, h11, h12, h13⟩, h14, h15⟩
def eqCB (K : PySem.W.Frag) (x : Str) : Bool := decide (PySem.W.findIn K (.ref (He.ga K x)) "__eq__" = some (some (.ref (He.ma K (He.ga K x) "__eq__")))) && (PySem.W.isFn K (.ref (He.ma K (He.ga K x) "__eq__")) &&
  ["NoneType", "bool", "int", "str"].all (fun t => PySem.W.notFirst K (He.ga K x) (.type t)))
structure EqF (K : PySem.W.Frag) (C fE : Addr) : Prop where
  at_ : PySem.W.findIn K (.ref C) "__eq__" = some (some (.ref fE))
  fn : PySem.W.isFn K (.ref fE) = true
  nf : ∀ t, t ∈ ["NoneType", "bool", "int", "str"] → PySem.W.notFirst K C (.type t) = true
theorem eqCB_ok {K : PySem.W.Frag} {x : Str} (h : eqCB K x = true) : EqF K (He.ga K x) (He.ma K (He.ga K x) "__eq__") := by
  unfold eqCB at h
  simp only [Bool.and_eq_true, decide_eq_true_eq, List.all_eq_true] at h
  exact ⟨h.1, h.2.1, h.2.2⟩
/-- more names than the target writes -/
theorem TgOk.more {c : Cn} {is is' : List Nat} {g : TG} {f : GG} (h : TgOk c is g f) (sub : ∀ i ∈ is, i ∈ is') : TgOk c is' g f := fun F H σ ρ ρ' x v Q er r e q =>
  h F H σ ρ ρ' x v Q er r e fun σ' er' ow w nj => q σ' er' ow (wipe_eq (by have := congrArg List.length w; rwa [wipe_length, wipe_length] at this) fun j hj => nj j fun z => hj (sub j z)) fun j hj => nj j fun z => hj (sub j z)
end VL

set_option Elab.async false
set_option linter.all false
set_option maxRecDepth 100000
set_option maxHeartbeats 1000000
/-! VL, part 28: three names at once. -/
namespace VL
open PySem PySem.Spec PyProof.Rows L2
section
variable {c : Cn} {X : Cx} {W : WX} {pn : Nat → Bool}
variable {i j l : Nat} {x y z : Str} {a b e : Expr} {px py pz pt pos pt2 : Pos} {kt k2 : Nat} {ga gb ge : GE} {la : GL}
/-- a, b, c = x, y, z -/
def sPar3 (i j l : Nat) (g h k : GE) : GS := fun ρ => (g ρ).bind fun a => (h a.2).bind fun b => (k b.2).bind fun d => .ret (.nx (((d.2.set i (.fz a.1)).set j (.fz b.1)).set l (.fz d.1)))
def sPar3L (i j l : Nat) (g : GL) (h k : GE) : GS := fun ρ => (g ρ).bind fun a => (h a.2).bind fun b => (k b.2).bind fun d => .ret (.nx (((d.2.set i (.ow a.1)).set j (.fz b.1)).set l (.fz d.1)))
theorem set_pin3 {σ : St} {u v w : Option V} (hpi : pn i = false) (hpj : pn j = false) (hpl : pn l = false) : ∀ k, pn k = true → (((σ.set i u).set j v).set l w)[k]? = σ[k]? := fun k hk => by
  have n1 : l ≠ k := fun q => by rw [← q, hpl] at hk; cases hk
  rw [List.getElem?_set_ne n1, set_pin hpi hpj k hk]
theorem vs_par3 (hc : X.calm = true) (hN : X.N.Nodup) (hi : X.N[i]? = some x) (hj : X.N[j]? = some y) (hl : X.N[l]? = some z) (hij : i ≠ j) (hil : i ≠ l) (hjl : j ≠ l) (hpi : pn i = false) (hpj : pn j = false) (hpl : pn l = false)
    (hx : X.env.scope.names.lookup x = some .local) (hy : X.env.scope.names.lookup y = some .local) (hz : X.env.scope.names.lookup z = some .local) (ha : PE X a (tE c W ga)) (hb : PE X b (tE c W gb)) (hd : PE X e (tE c W ge))
    (hw : swappedStores [.Tuple [.Name x px, .Name y py, .Name z pz] kt pt] (.Tuple [a, b, e] k2 pt2) X.env = pure (some [x, y, z]))
    (he : starEach [a, b, e] X.env = (false, eval a X.env) :: starEach [b, e] X.env := by rfl) (he2 : starEach [b, e] X.env = (false, eval b X.env) :: starEach [e] X.env := by rfl) (he3 : starEach [e] X.env = (false, eval e X.env) :: starEach [] X.env := by rfl)
    (hs : swapsWithSole [.Tuple [.Name x px, .Name y py, .Name z pz] kt pt] (.Tuple [a, b, e] k2 pt2) pos.line X.env = pure false := by rfl) :
    PS X (.Assign [.Tuple [.Name x px, .Name y py, .Name z pz] kt pt] (.Tuple [a, b, e] k2 pt2) pos) (tS c pn W (sPar3 i j l ga gb ge)) :=
  imp_PS (ps_par3 hc hN hi hj hl hij hil hjl hx hy hz (pa_cons ha (pa_cons hb (pa_cons hd pa_nil he3) he2) he) hw hs) fun D σ H ⟨ρ, F, er, z⟩ =>
    tE_bindS er z fun v ρ1 w F1 H1 st rep h1 => tE_bindS st.2 h1 fun u ρ2 y F2 H2 st2 rep2 h2 => tE_bindS st2.2 h2 fun t ρ3 q F3 H3 st3 rep3 h3 => ⟨w, y, q, rfl, h3 _ F3 H3
      ⟨(Stp.refl F3 H3 _).less fun p q => own_set (own_set (own_set q)), ((st3.2.set ((rep.mono st2.1.ff).mono st3.1.ff)).set (rep2.mono st3.1.ff)).set rep3, set_pin3 hpi hpj hpl, by rw [List.length_set, List.length_set, List.length_set]⟩⟩
theorem vs_par3L (hc : X.calm = true) (hN : X.N.Nodup) (hi : X.N[i]? = some x) (hj : X.N[j]? = some y) (hl : X.N[l]? = some z) (hij : i ≠ j) (hil : i ≠ l) (hjl : j ≠ l) (hpi : pn i = false) (hpj : pn j = false) (hpl : pn l = false)
    (hx : X.env.scope.names.lookup x = some .local) (hy : X.env.scope.names.lookup y = some .local) (hz : X.env.scope.names.lookup z = some .local) (ha : PE X a (tL c W la)) (hb : PE X b (tE c W gb)) (hd : PE X e (tE c W ge))
    (hw : swappedStores [.Tuple [.Name x px, .Name y py, .Name z pz] kt pt] (.Tuple [a, b, e] k2 pt2) X.env = pure (some [x, y, z]))
    (he : starEach [a, b, e] X.env = (false, eval a X.env) :: starEach [b, e] X.env := by rfl) (he2 : starEach [b, e] X.env = (false, eval b X.env) :: starEach [e] X.env := by rfl) (he3 : starEach [e] X.env = (false, eval e X.env) :: starEach [] X.env := by rfl)
    (hs : swapsWithSole [.Tuple [.Name x px, .Name y py, .Name z pz] kt pt] (.Tuple [a, b, e] k2 pt2) pos.line X.env = pure false := by rfl) :
    PS X (.Assign [.Tuple [.Name x px, .Name y py, .Name z pz] kt pt] (.Tuple [a, b, e] k2 pt2) pos) (tS c pn W (sPar3L i j l la gb ge)) :=
  imp_PS (ps_par3 hc hN hi hj hl hij hil hjl hx hy hz (pa_cons ha (pa_cons hb (pa_cons hd pa_nil he3) he2) he) hw hs) fun D σ H ⟨ρ, F, er, z⟩ =>
    ⟨ρ, F, er, (la ρ).mono (fun r h1 p vs F1 H1 st hn hF hH no rep => ⟨r.2, F1, st.2, (gb r.2).mono (fun r2 h2 y F2 H2 st2 rep2 => ⟨r2.2, F2, st2.2, (ge r2.2).mono (fun r3 h3 q F3 H3 st3 rep3 => by
      have s23 := (st2.trans st3).1
      obtain ⟨p1, p2⟩ := s23.hh p _ hH no
      have no' : ¬ Own σ r3.2 p := fun z => (s23.ow p z).elim no fun e => by rw [hH] at e; cases e
      obtain ⟨e1, o1⟩ := er_own (i := i) st3.2 (p2 hF) p1 no' (rep.mono s23.ff)
      have e2 := (e1.set (i := j) (rep2.mono st3.1.ff)).set (i := l) rep3
      have s13 := (st.trans (st2.trans st3)).1
      refine ⟨.ref p, y, q, rfl, h3 _ F3 H3 ⟨⟨s13.ff, s13.hh, s13.th, fun b z => ?_⟩, e2, set_pin3 hpi hpj hpl, by rw [List.length_set, List.length_set, List.length_set]⟩⟩
      rcases o1 b (own_set (own_set z)) with z | z
      · exact s13.ow b z
      · subst z; exact .inr hn) (fun _ q => (ErS.step (st.trans st2).s q).e) h2⟩) (fun _ q => (ErS.step st.s q).e) h1⟩) (fun _ q => q.e) z⟩
end
end VL

set_option Elab.async false
set_option linter.all false
set_option maxRecDepth 100000
set_option maxHeartbeats 1000000
/-! VL, part 29: plain help for comprehensions with two for, for dicts, for equal trees. -/
namespace VL
open PySem PySem.Spec PyProof.Rows L2
theorem lcLoop2_gen {is is1 : List Nat} {f f1 : GG} {gt gt1 : GT} {gi1 : GI} {ge : GE} (C : Env' → Prop) (ys : PV → List PV) (h : PV → PV → PV) : ∀ (xs : List PV) (ρ1 : Env'), C ρ1 →
    (∀ x ∈ xs, ∀ ρ1, C ρ1 → ∃ ρ2, f x (wipeE ρ1 is) = some ρ2 ∧ gt ρ2 = .ret (true, ρ2) ∧ gi1 ρ2 = .ret (ys x, ρ2) ∧ (ys x).length ≤ 4096 ∧ ∃ D : Env' → Prop, D ρ2 ∧ (∀ ρ3, D ρ3 → C ρ3) ∧
      (∀ y ∈ ys x, ∀ ρ3, D ρ3 → ∃ ρ4, f1 y (wipeE ρ3 is1) = some ρ4 ∧ D ρ4 ∧ gt1 ρ4 = .ret (true, ρ4) ∧ ge ρ4 = .ret (h x y, ρ4))) →
    ∃ ρ', C ρ' ∧ lcLoop2 is is1 f gt gi1 f1 gt1 ge xs ρ1 = .ret (xs.flatMap fun x => (ys x).map (h x), ρ')
  | [], ρ1, hC, _ => ⟨ρ1, hC, rfl⟩
  | x :: xs, ρ1, hC, hs => by
    obtain ⟨ρ2, e1, e2, e3, e4, D, d2, dc, e5⟩ := hs x List.mem_cons_self ρ1 hC
    obtain ⟨ρ3, c3, e6⟩ := lcLoop_gen (f := f1) (gt := gt1) (ge := ge) D (fun _ => true) (h x) (ys x) ρ2 d2 (fun y hy ρ3 d3 => by
      obtain ⟨ρ4, a, b, c, d⟩ := e5 y hy ρ3 d3
      exact ⟨ρ4, a, b, c, fun _ => d⟩)
    obtain ⟨ρ', a, b⟩ := lcLoop2_gen C ys h xs ρ3 (dc _ c3) fun y hy => hs y (List.mem_cons_of_mem _ hy)
    refine ⟨ρ', a, ?_⟩
    unfold lcLoop2
    rw [e1]
    dsimp only
    rw [e2]
    simp only [Wp.ret_bind, if_true, e3]
    rw [if_pos e4, e6]
    simp only [Wp.ret_bind, b, filter_all fun _ _ => rfl, List.flatMap_cons]
/-- a comprehension with two for, without effects -/
theorem lLc2_gen {is is1 : List Nat} {gi : GI} {f f1 : GG} {gt gt1 : GT} {gi1 : GI} {ge : GE} {ρ : Env'} {xs : List PV} (C : Env' → Prop) (ys : PV → List PV) (h : PV → PV → PV) (hi : gi ρ = .ret (xs, ρ)) (hz : xs.length ≤ 4096) (fr : frozenAt ρ is = true) (hC : C ρ)
    (hs : ∀ x ∈ xs, ∀ ρ1, C ρ1 → ∃ ρ2, f x (wipeE ρ1 is) = some ρ2 ∧ gt ρ2 = .ret (true, ρ2) ∧ gi1 ρ2 = .ret (ys x, ρ2) ∧ (ys x).length ≤ 4096 ∧ ∃ D : Env' → Prop, D ρ2 ∧ (∀ ρ3, D ρ3 → C ρ3) ∧
      (∀ y ∈ ys x, ∀ ρ3, D ρ3 → ∃ ρ4, f1 y (wipeE ρ3 is1) = some ρ4 ∧ D ρ4 ∧ gt1 ρ4 = .ret (true, ρ4) ∧ ge ρ4 = .ret (h x y, ρ4))) (hb : ∀ ρ1, C ρ1 → backE ρ1 ρ is = ρ) :
    lLc2 is is1 gi f gt gi1 f1 gt1 ge ρ = .ret (xs.flatMap fun x => (ys x).map (h x), ρ) := by
  obtain ⟨ρ', a, b⟩ := lcLoop2_gen (f := f) (f1 := f1) (gt := gt) (gt1 := gt1) (gi1 := gi1) (ge := ge) C ys h xs ρ hC hs
  unfold lLc2
  rw [hi]
  simp only [Wp.ret_bind]
  rw [if_pos ⟨hz, fr⟩, b]
  simp only [noEx_ret, Wp.ret_bind]
  rw [hb _ a]
theorem putP_new {kvs : List (Key × PV)} {k : Key} {v : PV} (h : ∀ kv ∈ kvs, kv.1 ≠ k) : putP kvs k v = kvs ++ [(k, v)] := by
  unfold putP
  rw [if_neg]
  intro z
  obtain ⟨kv, h1, h2⟩ := List.any_eq_true.mp z
  exact h kv h1 (of_decide_eq_true h2)
/-- a dict comprehension over pairs with unlike keys -/
theorem dcLoop_gen {is : List Nat} {f : GG} {gt : GT} {gk gv : GE} (C : Env' → Prop) (K : PV → Key) (V' : PV → PV) : ∀ (xs : List PV) (acc : List (Key × PV)) (ρ1 : Env'), C ρ1 → (xs.Pairwise fun x y => K x ≠ K y) → (∀ kv ∈ acc, ∀ x ∈ xs, kv.1 ≠ K x) →
    (∀ x ∈ xs, ∀ ρ1, C ρ1 → ∃ ρ2 kx, f x (wipeE ρ1 is) = some ρ2 ∧ C ρ2 ∧ gt ρ2 = .ret (true, ρ2) ∧ gk ρ2 = .ret (kx, ρ2) ∧ keyP kx = some (K x) ∧ gv ρ2 = .ret (V' x, ρ2)) →
    ∃ ρ', C ρ' ∧ dcLoop is f gt gk gv xs acc ρ1 = .ret (acc ++ xs.map fun x => (K x, V' x), ρ')
  | [], acc, ρ1, hC, _, _, _ => ⟨ρ1, hC, by unfold dcLoop; rw [List.map_nil, List.append_nil]⟩
  | x :: xs, acc, ρ1, hC, hp, ha, hs => by
    obtain ⟨ρ2, kx, e1, c2, e2, e3, e4, e5⟩ := hs x List.mem_cons_self ρ1 hC
    obtain ⟨p1, p2⟩ := List.pairwise_cons.mp hp
    obtain ⟨ρ', a, b⟩ := dcLoop_gen C K V' xs (acc ++ [(K x, V' x)]) ρ2 c2 p2 (fun kv hkv y hy => by
      rcases List.mem_append.mp hkv with z | z
      · exact ha kv z y (List.mem_cons_of_mem _ hy)
      · rw [List.mem_singleton.mp z]; exact p1 y hy) fun y hy => hs y (List.mem_cons_of_mem _ hy)
    refine ⟨ρ', a, ?_⟩
    unfold dcLoop
    rw [e1]
    dsimp only
    rw [e2]
    simp only [Wp.ret_bind, if_true, e3, e4, e5]
    rw [putP_new fun kv hkv => ha kv hkv x List.mem_cons_self, b, List.append_assoc]
    rfl
theorem eDc_gen {is : List Nat} {gi : GI} {f : GG} {gt : GT} {gk gv : GE} {ρ : Env'} {xs : List PV} (C : Env' → Prop) (K : PV → Key) (V' : PV → PV) (hi : gi ρ = .ret (xs, ρ)) (hz : xs.length ≤ sizeLine) (fr : frozenAt ρ is = true) (hC : C ρ) (hp : xs.Pairwise fun x y => K x ≠ K y)
    (hs : ∀ x ∈ xs, ∀ ρ1, C ρ1 → ∃ ρ2 kx, f x (wipeE ρ1 is) = some ρ2 ∧ C ρ2 ∧ gt ρ2 = .ret (true, ρ2) ∧ gk ρ2 = .ret (kx, ρ2) ∧ keyP kx = some (K x) ∧ gv ρ2 = .ret (V' x, ρ2)) (hb : ∀ ρ1, C ρ1 → backE ρ1 ρ is = ρ) :
    eDc is gi f gt gk gv ρ = .ret (.dic none (xs.map fun x => (K x, V' x)), ρ) := by
  obtain ⟨ρ', a, b⟩ := dcLoop_gen (f := f) (gt := gt) (gk := gk) (gv := gv) C K V' xs [] ρ hC hp (fun _ z => nomatch z) hs
  unfold eDc
  rw [hi]
  simp only [Wp.ret_bind]
  rw [if_pos ⟨hz, fr⟩, b]
  simp only [noEx_ret, Wp.ret_bind, List.nil_append]
  rw [hb _ a]
/-! ### equal trees -/
mutual
/-- of numbers alone, no deeper than n -/
def flatI : Nat → PV → Bool
  | _, .int _ => true
  | n + 1, .tup xs => flatIs n xs
  | n + 1, .lst _ xs => flatIs n xs
  | _, _ => false
def flatIs : Nat → List PV → Bool
  | _, [] => true
  | n, x :: xs => flatI n x && flatIs n xs
end
mutual
theorem flatI_ok : ∀ (n : Nat) (v : PV), flatI n v = true → ∃ d, pvD v = some d ∧ d.canLay0 = true ∧ d.depth ≤ n
  | n, .int i, _ => ⟨.int i, rfl, by simp [PyData.canLay0], by simp [PyData.depth]⟩
  | 0, .tup xs, h => by simp [flatI] at h
  | n + 1, .tup xs, h => by
    obtain ⟨ds, a, b, c⟩ := flatIs_ok n xs (by simpa [flatI] using h)
    exact ⟨.tuple ds, by simp [pvD, a], by simp [PyData.canLay0, b], by simp [PyData.depth]; omega⟩
  | 0, .lst _ xs, h => by simp [flatI] at h
  | n + 1, .lst _ xs, h => by
    obtain ⟨ds, a, b, c⟩ := flatIs_ok n xs (by simpa [flatI] using h)
    exact ⟨.list ds, by simp [pvD, a], by simp [PyData.canLay0, b], by simp [PyData.depth]; omega⟩
  | n, .non, h => by cases n <;> simp [flatI] at h
  | n, .bl _, h => by cases n <;> simp [flatI] at h
  | n, .str _, h => by cases n <;> simp [flatI] at h
  | n, .dic _ _, h => by cases n <;> simp [flatI] at h
  | n, .ins _ _, h => by cases n <;> simp [flatI] at h
  | n, .scr _, h => by cases n <;> simp [flatI] at h
  | n, .any, h => by cases n <;> simp [flatI] at h
theorem flatIs_ok : ∀ (n : Nat) (xs : List PV), flatIs n xs = true → ∃ ds, pvDs xs = some ds ∧ PyData.canLayAll0 ds = true ∧ PyData.depthAll ds ≤ n
  | n, [], _ => ⟨[], rfl, by simp [PyData.canLayAll0], by simp [PyData.depthAll]⟩
  | n, x :: xs, h => by
    unfold flatIs at h
    rw [Bool.and_eq_true] at h
    obtain ⟨d, a, b, c⟩ := flatI_ok n x h.1
    obtain ⟨ds, a2, b2, c2⟩ := flatIs_ok n xs h.2
    exact ⟨d :: ds, by simp [pvDs, a, a2], by simp [PyData.canLayAll0, b, b2], by simp [PyData.depthAll]; omega⟩
end
theorem flatIs_all {n : Nat} : ∀ {xs : List PV}, (∀ x ∈ xs, flatI n x = true) → flatIs n xs = true
  | [], _ => by unfold flatIs; rfl
  | x :: xs, h => by unfold flatIs; rw [h x List.mem_cons_self, flatIs_all fun y hy => h y (List.mem_cons_of_mem _ hy)]; rfl
theorem eq_tup_self {xs : List PV} (h : flatI 60 (.tup xs) = true) : pEq (.tup xs) (.tup xs) = some (.bl true) := by
  obtain ⟨d, a, b, c⟩ := flatI_ok 60 _ h
  unfold pEq
  have e : eqB (.tup xs) (.tup xs) = some true := by
    show eqD (.tup xs) (.tup xs) = _
    unfold eqD
    rw [a]
    have sh : SeqAt.shaped d = true := by
      unfold SeqAt.shaped
      rw [b, Bool.true_and]
      exact decide_eq_true (by omega)
    dsimp only
    rw [if_pos ⟨sh, sh⟩]
    rw [PySem.SeqAt.eqv_refl d b]
  rw [e]
  rfl
theorem pAll_true {α : Type} (xs : List α) : pAll (.lst none (xs.map fun _ => PV.bl true)) = some (.bl true) := by
  have e : blsOf (xs.map fun _ => PV.bl true) = some (xs.map fun _ => true) := by
    induction xs with
    | nil => rfl
    | cons x xs ih => simp [blsOf, ih]
  show (blsOf _).map _ = _
  rw [e]
  have q : (xs.map fun _ => true).all id = true := List.all_eq_true.mpr fun b h => by obtain ⟨_, _, rfl⟩ := List.mem_map.mp h; rfl
  rw [Option.map_some, q]
theorem all_true {α : Type} {w : Wp XE' (List PV × Env')} {xs : List α} {ρ : Env'} (h : w = .ret (xs.map (fun _ => PV.bl true), ρ)) : ∃ bs, w = .ret (bs, ρ) ∧ pAll (.lst none bs) = some (.bl true) := ⟨_, h, pAll_true xs⟩
/-- a loop that runs to its end, without effects -/
theorem for_det {f : GG} {g : GS} (C : Nat → Env' → Prop) : ∀ (xs : List PV) (n : Nat) (ρ : Env'), C n ρ →
    (∀ (k : Nat) (x : PV), xs[k]? = some x → ∀ ρ1, C (n + k) ρ1 → ∃ ρ2 ρ3, f x ρ1 = some ρ2 ∧ g ρ2 = .ret (.nx ρ3) ∧ C (n + k + 1) ρ3) → ∃ ρ', C (n + xs.length) ρ' ∧ forLoop f g xs ρ = .ret (.nx ρ')
  | [], n, ρ, hC, _ => ⟨ρ, hC, rfl⟩
  | x :: xs, n, ρ, hC, hs => by
    obtain ⟨ρ2, ρ3, e1, e2, c3⟩ := hs 0 x rfl ρ hC
    obtain ⟨ρ', a, b⟩ := for_det C xs (n + 1) ρ3 c3 fun k y hy ρ1 c1 => by
      have := hs (k + 1) y (by simpa using hy) ρ1 (by rw [show n + (k + 1) = n + 1 + k by omega]; exact c1)
      rw [show n + (k + 1) + 1 = n + 1 + k + 1 by omega] at this
      exact this
    refine ⟨ρ', by rw [List.length_cons, show n + (xs.length + 1) = n + 1 + xs.length by omega]; exact a, ?_⟩
    unfold forLoop
    rw [e1]
    dsimp only
    rw [e2, Wp.ret_bind]
    exact b
theorem range_at {n k : Nat} {x : PV} (h : ((List.range n).map fun (k : Nat) => PV.int k)[k]? = some x) : k < n ∧ x = .int k := by
  rw [List.getElem?_map, Option.map_eq_some_iff] at h
  obtain ⟨j, e, rfl⟩ := h
  obtain ⟨a, b⟩ := List.getElem?_eq_some_iff.mp e
  rw [List.getElem_range] at b
  rw [List.length_range] at a
  exact ⟨a, by rw [b]⟩
/-! ### runs -/
theorem run_of {ε α β : Type} {m : Wp ε α} {f : α → Wp ε β} {K : β → Prop} {E : ε → Prop} (h : m.run (fun a => (f a).run K E) E) : (m.bind f).run K E := h
theorem run_map {ε ε' α : Type} (m : Wp ε α) (g : ε → ε') (K : α → Prop) (E : ε' → Prop) : (m.mapE g).run K E = m.run K fun e => E (g e) := rfl
theorem boxed_run {m : GF} {i n : Nat} {ρ : Env'} {ga : GA} {v : List PV} {K : PV × Env' → Prop} {E : XE' → Prop} (h : ρ[i]? = some (.bx n)) (hg : ga ρ = .ret (v, ρ)) (hm : (m (.bx n :: fzs v)).run (fun r => K (r.1, ρ.set i (r.2.headD .un))) (fun e => E (e.1, ρ.set i (e.2.headD .un)))) : (eCallB m i ga ρ).run K E := by
  have o : ownAt ρ i = true := by unfold ownAt; rw [h]; rfl
  rw [c_eCallB, if_pos o, hg]
  simp only [Wp.ret_bind]
  unfold boxCall
  rw [h]
  dsimp only
  rw [if_pos (show (SV.bx n).own = true from rfl)]
  exact run_of hm
theorem boxCall_run {m : GF} {i n : Nat} {ρ : Env'} {v : List PV} {K : PV × Env' → Prop} {E : XE' → Prop} (h : ρ[i]? = some (.bx n)) (hm : (m (.bx n :: fzs v)).run (fun r => K (r.1, ρ.set i (r.2.headD .un))) (fun e => E (e.1, ρ.set i (e.2.headD .un)))) : (boxCall m i v ρ).run K E := by
  unfold boxCall
  rw [h]
  dsimp only
  rw [if_pos (show (SV.bx n).own = true from rfl)]
  exact run_of hm
mutual
/-- small trees that are the same as themselves -/
def smz : Nat → PV → Bool
  | _ + 1, .non => true
  | _ + 1, .bl _ => true
  | _ + 1, .int _ => true
  | _ + 1, .str x => decide (x.length ≤ 16777216)
  | n + 1, .tup xs => decide (xs.length ≤ 16777216) && smzs n xs
  | n + 1, .lst _ xs => decide (xs.length ≤ 16777216) && smzs n xs
  | _, _ => false
def smzs : Nat → List PV → Bool
  | _, [] => true
  | n, x :: xs => smz n x && smzs n xs
end
theorem smzs_at : ∀ {n : Nat} {xs : List PV} {i : Nat} {x : PV}, smzs n xs = true → xs[i]? = some x → smz n x = true
  | _, [], _, _, _, e => by simp at e
  | n, y :: ys, 0, x, h, e => by
    unfold smzs at h
    rw [Bool.and_eq_true] at h
    simp at e
    rw [← e]
    exact h.1
  | n, y :: ys, i + 1, x, h, e => by
    unfold smzs at h
    rw [Bool.and_eq_true] at h
    exact smzs_at h.2 (by simpa using e)
theorem smzs_all : ∀ {n : Nat} {xs : List PV}, (∀ x ∈ xs, smz n x = true) → smzs n xs = true
  | _, [], _ => by unfold smzs; rfl
  | n, x :: xs, h => by unfold smzs; rw [h x List.mem_cons_self, smzs_all fun y hy => h y (List.mem_cons_of_mem _ hy)]; rfl
theorem sm_refl : ∀ (n : Nat) (v : PV), smz n v = true → Sm n v v
  | 0, v, h => by unfold smz at h; cases v <;> cases h
  | n + 1, .non, _ => .non
  | n + 1, .bl b, _ => .bl b
  | n + 1, .int i, _ => .int i
  | n + 1, .str x, h => by unfold smz at h; exact .str x (sl_le (of_decide_eq_true h))
  | n + 1, .tup xs, h => by
    unfold smz at h
    rw [Bool.and_eq_true] at h
    exact .tup rfl (sl_le (of_decide_eq_true h.1)) fun i x y hx hy => by
      rw [hx] at hy
      cases hy
      exact sm_refl n x (smzs_at h.2 hx)
  | n + 1, .lst g xs, h => by
    unfold smz at h
    rw [Bool.and_eq_true] at h
    exact .lst rfl (sl_le (of_decide_eq_true h.1)) fun i x y hx hy => by
      rw [hx] at hy
      cases hy
      exact sm_refl n x (smzs_at h.2 hx)
  | n + 1, .dic _ _, h => by unfold smz at h; cases h
  | n + 1, .ins _ _, h => by unfold smz at h; cases h
  | n + 1, .scr _, h => by unfold smz at h; cases h
  | n + 1, .any, h => by unfold smz at h; cases h
theorem lcLoop_inv {ii : List Nat} {f : GG} {gt : GT} {ge : GE} {E : XE' → Prop} (J : Nat → List PV → Env' → Prop) : ∀ (xs : List PV) (n : Nat) (acc : List PV) (ρ1 : Env') {K : List PV × Env' → Prop}, J n acc ρ1 →
    (∀ (k : Nat) (x : PV), xs[k]? = some x → ∀ acc ρ1, J (n + k) acc ρ1 → ∃ ρ2 b, f x (wipeE ρ1 ii) = some ρ2 ∧ gt ρ2 = .ret (b, ρ2) ∧ (b = false → J (n + k + 1) acc ρ2) ∧ (b = true → ∀ {K : PV × Env' → Prop} {E : XE' → Prop}, (∀ y ρ3, J (n + k + 1) (acc ++ [y]) ρ3 → K (y, ρ3)) → (ge ρ2).run K E)) →
    (∀ ys ρ', J (n + xs.length) (acc ++ ys) ρ' → K (ys, ρ')) → (lcLoop ii f gt ge xs ρ1).run K E
  | [], n, acc, ρ1, K, h, _, hK => hK [] ρ1 (by rw [List.append_nil]; exact h)
  | x :: xs, n, acc, ρ1, K, h, hs, hK => by
    obtain ⟨ρ2, b, e1, e2, h1, h2⟩ := hs 0 x rfl acc ρ1 h
    have hs' : ∀ (k : Nat) (x : PV), xs[k]? = some x → ∀ acc ρ1, J (n + 1 + k) acc ρ1 → ∃ ρ2 b, f x (wipeE ρ1 ii) = some ρ2 ∧ gt ρ2 = .ret (b, ρ2) ∧ (b = false → J (n + 1 + k + 1) acc ρ2) ∧ (b = true → ∀ {K : PV × Env' → Prop} {E : XE' → Prop}, (∀ y ρ3, J (n + 1 + k + 1) (acc ++ [y]) ρ3 → K (y, ρ3)) → (ge ρ2).run K E) := fun k y hy acc ρ1 hj => by
      have q := hs (k + 1) y (by simpa using hy) acc ρ1 (by rw [show n + (k + 1) = n + 1 + k by omega]; exact hj)
      rw [show n + (k + 1) + 1 = n + 1 + k + 1 by omega] at q
      exact q
    have el : n + (x :: xs).length = n + 1 + xs.length := by rw [List.length_cons]; omega
    unfold lcLoop
    rw [e1]
    dsimp only
    rw [e2]
    cases b with
    | true =>
      simp only [Wp.ret_bind, if_true, Wp.run_bind]
      refine h2 rfl fun y ρ3 hj => ?_
      exact lcLoop_inv (K := fun r => K (y :: r.1, r.2)) J xs (n + 1) (acc ++ [y]) ρ3 hj hs' fun ys ρ' hj' => hK (y :: ys) ρ' (by rw [el]; rw [List.append_assoc] at hj'; exact hj')
    | false =>
      simp only [Wp.ret_bind, Bool.false_eq_true, if_false]
      exact lcLoop_inv J xs (n + 1) acc ρ2 (h1 rfl) hs' fun ys ρ' hj' => hK ys ρ' (by rw [el]; exact hj')
/-- a comprehension with a test, that draws -/
theorem lLc_inv {ii : List Nat} {gi : GI} {f : GG} {gt : GT} {ge : GE} {ρ : Env'} {xs : List PV} {K : List PV × Env' → Prop} {E : XE' → Prop} (J : Nat → List PV → Env' → Prop) (hi : gi ρ = .ret (xs, ρ)) (hz : xs.length ≤ sizeLine) (fr : frozenAt ρ ii = true) (hJ : J 0 [] ρ)
    (hs : ∀ (k : Nat) (x : PV), xs[k]? = some x → ∀ acc ρ1, J k acc ρ1 → ∃ ρ2 b, f x (wipeE ρ1 ii) = some ρ2 ∧ gt ρ2 = .ret (b, ρ2) ∧ (b = false → J (k + 1) acc ρ2) ∧ (b = true → ∀ {K : PV × Env' → Prop} {E : XE' → Prop}, (∀ y ρ3, J (k + 1) (acc ++ [y]) ρ3 → K (y, ρ3)) → (ge ρ2).run K E))
    (hK : ∀ ys ρ', J xs.length ys ρ' → K (ys, backE ρ' ρ ii)) : (lLc ii gi f gt ge ρ).run K E := by
  unfold lLc
  rw [hi]
  simp only [Wp.ret_bind]
  rw [if_pos ⟨hz, fr⟩]
  simp only [Wp.run_bind, noEx_run]
  exact lcLoop_inv J xs 0 [] ρ hJ (fun k x hx acc ρ1 hj => by
    rw [Nat.zero_add] at hj ⊢
    exact hs k x hx acc ρ1 hj) fun ys ρ' hj => hK ys ρ' (by rw [Nat.zero_add, List.nil_append] at hj; exact hj)
/-- a loop that runs to its end, and draws -/
theorem for_inv {f : GG} {g : GS} {K : Out → Prop} {E : XE' → Prop} (C : Nat → Env' → Prop) : ∀ (xs : List PV) (n : Nat) (ρ : Env'), C n ρ →
    (∀ (k : Nat) (x : PV), xs[k]? = some x → ∀ ρ1, C (n + k) ρ1 → ∃ ρ2, f x ρ1 = some ρ2 ∧ ∀ {K : Out → Prop} {E : XE' → Prop}, (∀ ρ', C (n + k + 1) ρ' → K (.nx ρ')) → (g ρ2).run K E) →
    (∀ ρ', C (n + xs.length) ρ' → K (.nx ρ')) → (forLoop f g xs ρ).run K E
  | [], n, ρ, hC, _, hK => hK ρ hC
  | x :: xs, n, ρ, hC, hs, hK => by
    obtain ⟨ρ2, e1, e2⟩ := hs 0 x rfl ρ hC
    unfold forLoop
    rw [e1]
    simp only [Wp.run_bind]
    refine e2 (K := fun o => (match o with
        | .nx ρ2 => forLoop f g xs ρ2
        | .ct ρ2 => forLoop f g xs ρ2
        | .bk ρ2 => .ret (.nx ρ2)
        | .rt v ρ2 => .ret (.rt v ρ2)
        | .th (some b) ρ2 => .ret (.th (some b) ρ2)
        | .th none _ => .stuck : Wp XE' Out).run K E) fun ρ' c' => ?_
    exact for_inv C xs (n + 1) ρ' c' (fun k y hy ρ1 hc => by
      have q := hs (k + 1) y (by simpa using hy) ρ1 (by rw [show n + (k + 1) = n + 1 + k by omega]; exact hc)
      rw [show n + (k + 1) + 1 = n + 1 + k + 1 by omega] at q
      exact q) fun ρ'' c'' => hK ρ'' (by
      rw [List.length_cons, show n + (xs.length + 1) = n + 1 + xs.length by omega]; exact c'')
/-- a thing of a table -/
theorem tab {xs : List PV} {P : PV → Prop} (h : ∀ x ∈ xs, P x) {d : Int} (h1 : 0 ≤ d) (h2 : d < xs.length) : ∃ x, pIx (.lst none xs) (.int d) = some x ∧ P x := by
  obtain ⟨k, rfl⟩ := Int.eq_ofNat_of_zero_le h1
  have hk : k < xs.length := by omega
  exact ⟨xs[k], atI_nat' (List.getElem?_eq_getElem hk), h _ (List.getElem_mem hk)⟩
theorem iRange_sub {n : Nat} (h : n ≤ 1000000) : iRange (.int ((n : Int) - 1)) = some ((List.range (n - 1)).map fun (k : Nat) => PV.int k) := by
  unfold iRange
  have e1 : ((n : Int) - 1).natAbs < 4611686018427387904 := by omega
  have e2 : ((n : Int) - 1).toNat = n - 1 := by omega
  dsimp only
  rw [if_pos e1, e2]
end VL

set_option Elab.async false
set_option linter.all false
set_option maxRecDepth 100000
set_option maxHeartbeats 1000000
/-! VL, part 30: xs.extend(..) of a list of one's own. -/
namespace VL
open PySem PySem.Spec PyProof.Rows L2
def extV : PV → Option SV → Option (List PV)
  | .lst _ zs, some (.ow xs) => if xs.length + zs.length ≤ sizeLine then some (xs ++ zs) else none
  | _, _ => none
/-- xs.extend(e), xs a list of one's own, e a list -/
def sExtO (i : Nat) (g : GE) : GS := fun ρ => if ownAt ρ i = true then (g ρ).bind fun a => match extV a.1 a.2[i]? with
  | some ys => .ret (.nx (a.2.set i (.ow ys)))
  | none => .stuck
  else .stuck
@[simp] theorem c_sExtO {i : Nat} {g : GE} {ρ : Env'} : sExtO i g ρ = if ownAt ρ i = true then (g ρ).bind fun a => match extV a.1 a.2[i]? with
  | some ys => .ret (.nx (a.2.set i (.ow ys)))
  | none => .stuck
  else .stuck := (rfl)
section
variable {c : Cn} {X : Cx} {W : WX} {pn : Nat → Bool} {i : Nat} {a : Expr} {ga : GE} {p pos : Pos}
theorem reps_app {F : Hp} : ∀ {vs ws : List V} {xs ys : List PV}, Reps c F vs xs → Reps c F ws ys → Reps c F (vs ++ ws) (xs ++ ys)
  | _, _, _, _, .nil, r => r
  | _, _, _, _, .cons h t, r => .cons h (reps_app t r)
theorem vs_extO {o : Expr} {apos : Pos} (ho : PE X o (tVar i)) (ha : PE X a (tE c W ga)) (hbase : attributeBase o "extend" X.env (eval o X.env) = eval o X.env := by rfl)
    (hfew : ((backTo p (starEach [a] X.env)).all (fun x => !x.1) && (backToKw p (keywordEach [] X.env)).all (fun x => x.1.isSome) && decide ([a].length + ([] : List Keyword).length + (if ([] : List Keyword).isEmpty then 0 else 1) < 30)) = true := by rfl)
    (hline : (apos.endLine == p.line) = true := by rfl) (hs : starEach [a] X.env = (false, eval a X.env) :: starEach [] X.env := by rfl) (hsw : swapsWith (.Call (.Attribute o "extend" apos) [a] [] p) none pos.line X.env = pure false := by rfl) :
    PS X (.Expr (.Call (.Attribute o "extend" apos) [a] [] p) pos) (tS c pn W (sExtO i ga)) :=
  imp_PS (ps_expr (pe_bm PySem.F.plainAttrs_list PySem.F.slot_list_extend PySem.F.type_list_extend mt_extend ho (pa_cons ha pa_nil hs) hbase hfew hline hs) hsw) fun D σ H ⟨ρ, F, er, z⟩ => by
    unfold sExtO at z
    by_cases h : ownAt ρ i = true
    · rw [if_pos h] at z
      obtain ⟨u, hu⟩ := ownAt_val er h
      obtain ⟨q0, vs0, e0, hq0⟩ : ∃ q vs, u = .ref q ∧ H q = some (.lst vs) := by
        unfold ownAt at h
        split at h
        · rename_i s hs'
          have z0 := er.slot i _ s hu hs'
          cases s with
          | un => cases h
          | fz v => cases h
          | ow xs => obtain ⟨p, vs, e, _, e2, _⟩ := z0; cases e; exact ⟨p, vs, rfl, e2⟩
          | bx n => obtain ⟨p, vs, e, _, e2, _⟩ := z0; cases e; exact ⟨p, vs, rfl, e2⟩
        · cases h
      subst e0
      refine ⟨.ref q0, hu, .inl ⟨rfl, _, SqL.of hq0⟩, tE_bindS er z fun v ρ1 w F1 H1 st rep h1 => ?_⟩
      dsimp only at h1
      cases hx : extV v ρ1[i]? with
      | none => rw [hx] at h1; exact h1.elim
      | some ys =>
        rw [hx] at h1
        unfold extV at hx
        split at hx
        · rename_i g zs xs hi
          split at hx
          · rename_i hz
            cases hx
            obtain ⟨q, vs, e1, hF, hH, r⟩ := st.2.ow hi
            rw [hu] at e1
            cases e1
            cases rep with
            | @lst b ws _ _ hb rb tb =>
              exact ⟨_, b, vs, ws, rfl, rfl, hH, st.2.sub _ _ hb, by rw [r.length, rb.length]; exact hz, h1 σ F1 _ (put_own st.2 hi hu hF hH (reps_app r rb))⟩
          · cases hx
        · cases hx
    · rw [if_neg h] at z
      exact z.elim
end
end VL

set_option Elab.async false
set_option linter.all false
set_option maxRecDepth 100000
set_option maxHeartbeats 1000000
/-! VL, part 31: a, b = a list. -/
namespace VL
open PySem PySem.Spec PyProof.Rows L2
def gL (is : List Nat) : GG := fun v ρ => match v with
  | .lst _ xs => if xs.length = is.length then setAll is xs ρ else none
  | _ => none
theorem tg_lst {c : Cn} {is : List Nat} {g : TGs} {K : PySem.W.Frag} (hk : c.K = K) (h : TgsOk c is g) : TgOk c is (gLst K is.length g) (gL is) := fun F H σ ρ ρ' x v Q er r e q => by
  cases r with
  | @lst a vs gg xs hF rs =>
    have e' : (if xs.length = is.length then setAll is xs ρ else none) = some ρ' := e
    by_cases hl : xs.length = is.length
    · rw [if_pos hl] at e'
      refine ⟨a, vs, rfl, SqL.of (er.sub _ _ hF), by rw [rs.length]; exact hl, tgs_run h er rs e' fun σ' er' ow hl nj => q σ' er' ow (wipe_eq hl nj) nj⟩
    · rw [if_neg hl] at e'
      cases e'
  | _ => cases e
end VL

set_option Elab.async false
set_option linter.all false
set_option maxRecDepth 100000
set_option maxHeartbeats 1000000
namespace k05
open PySem PySem.Spec PyProof.Rows L2 VL
def topS (i : Nat) : Stmt := PySem.Challenge.pw_nestedhands_k05_lines_beside.main.body.getD i (.Pass ⟨0, 0, 0, 0⟩)
def clsS (i j : Nat) : Stmt := match topS i with
  | .ClassDef _ _ _ b _ _ _ _ _ _ _ => b.getD j (.Pass ⟨0, 0, 0, 0⟩)
  | s => s
/-- which error is caught by which clause -/
def exT (k j : Nat) : Option Bool := match k, j with
  | 1, 0 => some true
  | 1, 1 => some true
  | 1, 2 => some false
  | 1, 3 => some false
  | 1, 4 => some false
  | 2, 0 => some true
  | 2, 1 => some false
  | 2, 2 => some true
  | 2, 3 => some false
  | 2, 4 => some false
  | 3, 0 => some true
  | 3, 1 => some false
  | 3, 2 => some false
  | 3, 3 => some true
  | 3, 4 => some false
  | 4, 0 => some true
  | 4, 1 => some false
  | 4, 2 => some false
  | 4, 3 => some false
  | 4, 4 => some true
  | _, _ => none
def eN : Nat → Str
  | 0 => "WireError"
  | 1 => "InvalidHeard"
  | 2 => "InvalidMarks"
  | 3 => "InvalidWays"
  | 4 => "TooMany"
  | 5 => "Line"
  | _ => "WireError"
abbrev s_is_whole : Stmt := topS 7
abbrev s_is_between : Stmt := topS 8
abbrev s_is_list : Stmt := topS 9
abbrev s_is_list_of : Stmt := topS 10
abbrev s_is_tuple_of : Stmt := topS 11
abbrev s_is_ascending : Stmt := topS 12
abbrev s_is_comings : Stmt := topS 18
abbrev s_are_ways : Stmt := topS 19
abbrev s_are_told : Stmt := topS 20
abbrev s_state_behind : Stmt := topS 22
abbrev s_is_heard : Stmt := topS 23
abbrev s_line_behind : Stmt := topS 24
abbrev s_check_count : Stmt := topS 26
abbrev s_lines_beside : Stmt := topS 27
abbrev s__law_cell : Stmt := topS 29
abbrev s__law_box : Stmt := topS 30
abbrev s__law_take : Stmt := topS 31
abbrev s__law_same : Stmt := topS 32
abbrev s__law_any_line : Stmt := topS 33
abbrev s__law_is_line : Stmt := topS 34
abbrev s__law_sizes : Stmt := topS 35
abbrev s__law_lines : Stmt := topS 36
abbrev s__law_due : Stmt := topS 37
abbrev s__law_asked : Stmt := topS 38
abbrev s__law_after : Stmt := topS 39
abbrev s__law_walked : Stmt := topS 40
abbrev s__law_heard : Stmt := topS 41
abbrev s__law_bent : Stmt := topS 42
abbrev s__law_behind : Stmt := topS 43
abbrev s__law_heard_right : Stmt := topS 44
abbrev s__law_right : Stmt := topS 45
abbrev s_law : Stmt := topS 46
abbrev s_InvalidHeard : Stmt := clsS 2 0
abbrev s_InvalidMarks : Stmt := clsS 3 0
abbrev s_InvalidWays : Stmt := clsS 4 0
abbrev s_TooMany : Stmt := clsS 5 0
abbrev si_Line : Stmt := clsS 21 0
abbrev se_Line : Stmt := clsS 21 1
def flds_Line : List Str := ["marks", "ways", "signs"]
/-- what is told of the top -/
structure Txt (K : PySem.W.Frag) (w : World) (mg : Str → Option Value) : Prop where
  f_abs : mg "abs" = none
  f_all : mg "all" = none
  f_bool : mg "bool" = none
  f_int : mg "int" = none
  f_isinstance : mg "isinstance" = none
  f_len : mg "len" = none
  f_list : mg "list" = none
  f_max : mg "max" = none
  f_min : mg "min" = none
  f_range : mg "range" = none
  f_str : mg "str" = none
  f_sum : mg "sum" = none
  f_tuple : mg "tuple" = none
  i_MOST_MARKS : ∃ t, mg "MOST_MARKS" = some (.int 8 t)
  i_MOST_SIGNS : ∃ t, mg "MOST_SIGNS" = some (.int 6 t)
  i_MOST_PLACES : ∃ t, mg "MOST_PLACES" = some (.int 8 t)
  i_MOST_HEARD : ∃ t, mg "MOST_HEARD" = some (.int 200 t)
  d_is_whole : Dh K mg "is_whole" s_is_whole
  d_is_between : Dh K mg "is_between" s_is_between
  d_is_list : Dh K mg "is_list" s_is_list
  d_is_list_of : Dh K mg "is_list_of" s_is_list_of
  d_is_tuple_of : Dh K mg "is_tuple_of" s_is_tuple_of
  d_is_ascending : Dh K mg "is_ascending" s_is_ascending
  d_is_comings : Dh K mg "is_comings" s_is_comings
  d_are_ways : Dh K mg "are_ways" s_are_ways
  d_are_told : Dh K mg "are_told" s_are_told
  d_state_behind : Dh K mg "state_behind" s_state_behind
  d_is_heard : Dh K mg "is_heard" s_is_heard
  d_line_behind : Dh K mg "line_behind" s_line_behind
  d_check_count : Dh K mg "check_count" s_check_count
  d_lines_beside : Dh K mg "lines_beside" s_lines_beside
  d__law_cell : Dh K mg "_law_cell" s__law_cell
  d__law_box : Dh K mg "_law_box" s__law_box
  d__law_take : Dh K mg "_law_take" s__law_take
  d__law_same : Dh K mg "_law_same" s__law_same
  d__law_any_line : Dh K mg "_law_any_line" s__law_any_line
  d__law_is_line : Dh K mg "_law_is_line" s__law_is_line
  d__law_sizes : Dh K mg "_law_sizes" s__law_sizes
  d__law_lines : Dh K mg "_law_lines" s__law_lines
  d__law_due : Dh K mg "_law_due" s__law_due
  d__law_asked : Dh K mg "_law_asked" s__law_asked
  d__law_after : Dh K mg "_law_after" s__law_after
  d__law_walked : Dh K mg "_law_walked" s__law_walked
  d__law_heard : Dh K mg "_law_heard" s__law_heard
  d__law_bent : Dh K mg "_law_bent" s__law_bent
  d__law_behind : Dh K mg "_law_behind" s__law_behind
  d__law_heard_right : Dh K mg "_law_heard_right" s__law_heard_right
  d__law_right : Dh K mg "_law_right" s__law_right
  d_law : Dh K mg "law" s_law
  g_WireError : mg "WireError" = some (.ref (He.ga K "WireError"))
  g_InvalidHeard : mg "InvalidHeard" = some (.ref (He.ga K "InvalidHeard"))
  g_InvalidMarks : mg "InvalidMarks" = some (.ref (He.ga K "InvalidMarks"))
  g_InvalidWays : mg "InvalidWays" = some (.ref (He.ga K "InvalidWays"))
  g_TooMany : mg "TooMany" = some (.ref (He.ga K "TooMany"))
  x_InvalidHeard : ExcT K (He.ga K "InvalidHeard") (He.ma K (He.ga K "InvalidHeard") "__init__") "given"
  n_InvalidHeard : ∃ fd, Fun K "__init__" "InvalidHeard.__init__" s_InvalidHeard (He.ma K (He.ga K "InvalidHeard") "__init__") fd
  x_InvalidMarks : ExcT K (He.ga K "InvalidMarks") (He.ma K (He.ga K "InvalidMarks") "__init__") "given"
  n_InvalidMarks : ∃ fd, Fun K "__init__" "InvalidMarks.__init__" s_InvalidMarks (He.ma K (He.ga K "InvalidMarks") "__init__") fd
  x_InvalidWays : ExcT K (He.ga K "InvalidWays") (He.ma K (He.ga K "InvalidWays") "__init__") "given"
  n_InvalidWays : ∃ fd, Fun K "__init__" "InvalidWays.__init__" s_InvalidWays (He.ma K (He.ga K "InvalidWays") "__init__") fd
  x_TooMany : ExcT K (He.ga K "TooMany") (He.ma K (He.ga K "TooMany") "__init__") "count"
  n_TooMany : ∃ fd, Fun K "__init__" "TooMany.__init__" s_TooMany (He.ma K (He.ga K "TooMany") "__init__") fd
  g_Line : mg "Line" = some (.ref (He.ga K "Line"))
  c_Line : ClsT K (He.ga K "Line") (He.ma K (He.ga K "Line") "__init__") flds_Line
  k_Line : KitC K (He.ga K "Line")
  ni_Line : ∃ fd, Fun K "__init__" "Line.__init__" si_Line (He.ma K (He.ga K "Line") "__init__") fd
  q_Line : EqF K (He.ga K "Line") (He.ma K (He.ga K "Line") "__eq__")
  ne_Line : ∃ fd, Fun K "__eq__" "Line.__eq__" se_Line (He.ma K (He.ga K "Line") "__eq__") fd
  em : ∀ k j b, exT k j = some b → PySem.W.exmOne K (.ref (He.ga K (eN k))) (.ref (He.ga K (eN j))) = some b
abbrev cc (K : PySem.W.Frag) (B : Addr → Prop) : Cn := ⟨K, fun k => He.ga K (eN k), B⟩
theorem Txt.exm {K : PySem.W.Frag} {w : World} {mg : Str → Option Value} {B : Addr → Prop} (T : Txt K w mg) : ExmOk (cc K B) exT := T.em
section
variable {P : Program} {w : World} {K : PySem.W.Frag} {mg : Str → Option Value} {base : Heap} {B : Addr → Prop}
theorem sc_InvalidHeard : FnScope ["self", "given"] ["self", "given"] (defScope s_InvalidHeard) := ⟨rfl, rfl, rfl, by decide +kernel, rfl, by decide +kernel, by decide +kernel⟩
theorem ec_InvalidHeard (T : Txt K w mg) : Ec P w K mg base (cc K B) 1 "InvalidHeard" 1 "given" := by
  obtain ⟨fd, Fn⟩ := T.n_InvalidHeard
  exact ec_ok rfl rfl T.x_InvalidHeard T.g_InvalidHeard (init_ok T.x_InvalidHeard Fn sc_InvalidHeard fun cdv A outer s H E => pss_one (ps_ost (pv 0) (pv 1))) (Fn.binds fun _ _ _ _ _ _ us hl => match us, hl with | [_, _], _ => rfl)
theorem sc_InvalidMarks : FnScope ["self", "given"] ["self", "given"] (defScope s_InvalidMarks) := ⟨rfl, rfl, rfl, by decide +kernel, rfl, by decide +kernel, by decide +kernel⟩
theorem ec_InvalidMarks (T : Txt K w mg) : Ec P w K mg base (cc K B) 1 "InvalidMarks" 2 "given" := by
  obtain ⟨fd, Fn⟩ := T.n_InvalidMarks
  exact ec_ok rfl rfl T.x_InvalidMarks T.g_InvalidMarks (init_ok T.x_InvalidMarks Fn sc_InvalidMarks fun cdv A outer s H E => pss_one (ps_ost (pv 0) (pv 1))) (Fn.binds fun _ _ _ _ _ _ us hl => match us, hl with | [_, _], _ => rfl)
theorem sc_InvalidWays : FnScope ["self", "given"] ["self", "given"] (defScope s_InvalidWays) := ⟨rfl, rfl, rfl, by decide +kernel, rfl, by decide +kernel, by decide +kernel⟩
theorem ec_InvalidWays (T : Txt K w mg) : Ec P w K mg base (cc K B) 1 "InvalidWays" 3 "given" := by
  obtain ⟨fd, Fn⟩ := T.n_InvalidWays
  exact ec_ok rfl rfl T.x_InvalidWays T.g_InvalidWays (init_ok T.x_InvalidWays Fn sc_InvalidWays fun cdv A outer s H E => pss_one (ps_ost (pv 0) (pv 1))) (Fn.binds fun _ _ _ _ _ _ us hl => match us, hl with | [_, _], _ => rfl)
theorem sc_TooMany : FnScope ["self", "count"] ["self", "count"] (defScope s_TooMany) := ⟨rfl, rfl, rfl, by decide +kernel, rfl, by decide +kernel, by decide +kernel⟩
theorem ec_TooMany (T : Txt K w mg) : Ec P w K mg base (cc K B) 1 "TooMany" 4 "count" := by
  obtain ⟨fd, Fn⟩ := T.n_TooMany
  exact ec_ok rfl rfl T.x_TooMany T.g_TooMany (init_ok T.x_TooMany Fn sc_TooMany fun cdv A outer s H E => pss_one (ps_ost (pv 0) (pv 1))) (Fn.binds fun _ _ _ _ _ _ us hl => match us, hl with | [_, _], _ => rfl)
theorem sc_is_whole : FnScope ["value"] ["value"] (defScope s_is_whole) := ⟨rfl, rfl, rfl, by decide +kernel, rfl, by decide +kernel, by decide +kernel⟩
def b_is_whole : GS := sRet (eAnd (eOp1 (pIsi "int") (eVar 0)) (eNot (eOp1 (pIsi "bool") (eVar 0))))
def m_is_whole : GF := fnV 1 noPin b_is_whole
theorem fo_is_whole (T : Txt K w mg)  : ∃ f fd, mg "is_whole" = some (.ref f) ∧ FnOk P w K mg base (L2.CX P w) 1 f fd ["value"] (SpV (cc K B) 1 m_is_whole) ∧ Fun K "is_whole" "is_whole" s_is_whole f fd := by
  obtain ⟨f, fd, hm, Fn⟩ := T.d_is_whole
  exact ⟨f, fd, hm, fn_ok (c := cc K B) (N := ["value"]) (pn := noPin) rfl Fn sc_is_whole rfl (by decide) (fun cdv A outer s H E hr => vss_one (vs_ret (ve_and (ve_isi rfl rfl T.f_isinstance b_isinstance (ve_var (pv 0)) rfl T.f_int b_int) (ve_one (ve_not (ve_isi rfl rfl T.f_isinstance b_isinstance (ve_var (pv 0)) rfl T.f_bool b_bool)))))), Fn⟩
theorem fv_is_whole (T : Txt K w mg)  : Fv P w K mg base (cc K B) 1 "is_whole" 1 m_is_whole := by
  obtain ⟨f, fd, hm, ok, Fn⟩ := fo_is_whole (P := P) (base := base) (B := B) T 
  exact ⟨f, fd, ["value"], rfl, hm, ok, Fn.kp, Fn.binds fun _ _ _ _ _ _ us hl => match us, hl with | [_], _ => rfl⟩
theorem sc_is_between : FnScope ["value", "least", "most"] ["value", "least", "most"] (defScope s_is_between) := ⟨rfl, rfl, rfl, by decide +kernel, rfl, by decide +kernel, by decide +kernel⟩
def b_is_between : GS := sRet (eAnd (eCall m_is_whole (aCons (eVar 0) (aNil))) (eChain pLe pLe (eVar 1) (eVar 0) (eVar 2)))
def m_is_between : GF := fnV 3 noPin b_is_between
theorem fo_is_between (T : Txt K w mg) (F_is_whole : Fv P w K mg base (cc K B) 1 "is_whole" 1 m_is_whole) : ∃ f fd, mg "is_between" = some (.ref f) ∧ FnOk P w K mg base (L2.CX P w) 2 f fd ["value", "least", "most"] (SpV (cc K B) 3 m_is_between) ∧ Fun K "is_between" "is_between" s_is_between f fd := by
  obtain ⟨f, fd, hm, Fn⟩ := T.d_is_between
  exact ⟨f, fd, hm, fn_ok (c := cc K B) (N := ["value", "least", "most"]) (pn := noPin) rfl Fn sc_is_between rfl (by decide) (fun cdv A outer s H E hr => vss_one (vs_ret (ve_and (ve_call F_is_whole hr (by decide) rfl (takes_of rfl rfl rfl rfl) (va_cons (ve_var (pv 0)) (va_nil))) (ve_one (ve_chain op_le o_leB op_le o_le (ve_var (pv 1)) (ve_var (pv 0)) (ve_var (pv 2))))))), Fn⟩
theorem fv_is_between (T : Txt K w mg) (F_is_whole : Fv P w K mg base (cc K B) 1 "is_whole" 1 m_is_whole) : Fv P w K mg base (cc K B) 2 "is_between" 3 m_is_between := by
  obtain ⟨f, fd, hm, ok, Fn⟩ := fo_is_between (P := P) (base := base) (B := B) T F_is_whole
  exact ⟨f, fd, ["value", "least", "most"], rfl, hm, ok, Fn.kp, Fn.binds fun _ _ _ _ _ _ us hl => match us, hl with | [_, _, _], _ => rfl⟩
theorem sc_is_list : FnScope ["value"] ["value"] (defScope s_is_list) := ⟨rfl, rfl, rfl, by decide +kernel, rfl, by decide +kernel, by decide +kernel⟩
def b_is_list : GS := sRet (eOp1 (pIsiT ["list", "tuple"]) (eVar 0))
def m_is_list : GF := fnV 1 noPin b_is_list
theorem fo_is_list (T : Txt K w mg)  : ∃ f fd, mg "is_list" = some (.ref f) ∧ FnOk P w K mg base (L2.CX P w) 1 f fd ["value"] (SpV (cc K B) 1 m_is_list) ∧ Fun K "is_list" "is_list" s_is_list f fd := by
  obtain ⟨f, fd, hm, Fn⟩ := T.d_is_list
  exact ⟨f, fd, hm, fn_ok (c := cc K B) (N := ["value"]) (pn := noPin) rfl Fn sc_is_list rfl (by decide) (fun cdv A outer s H E hr => vss_one (vs_ret (ve_isiT rfl rfl T.f_isinstance b_isinstance (by rw [sizeLine_eq]; decide) (by simp) (ve_var (pv 0)) (.cons rfl T.f_list b_list (by decide) (by decide) (.cons rfl T.f_tuple b_tuple (by decide) (by decide) (.nil) rfl) rfl)))), Fn⟩
theorem fv_is_list (T : Txt K w mg)  : Fv P w K mg base (cc K B) 1 "is_list" 1 m_is_list := by
  obtain ⟨f, fd, hm, ok, Fn⟩ := fo_is_list (P := P) (base := base) (B := B) T 
  exact ⟨f, fd, ["value"], rfl, hm, ok, Fn.kp, Fn.binds fun _ _ _ _ _ _ us hl => match us, hl with | [_], _ => rfl⟩
theorem sc_is_list_of : FnScope ["value", "least", "most"] ["value", "least", "most"] (defScope s_is_list_of) := ⟨rfl, rfl, rfl, by decide +kernel, rfl, by decide +kernel, by decide +kernel⟩
def b_is_list_of : GS := sRet (eAnd (eCall m_is_list (aCons (eVar 0) (aNil))) (eChain pLe pLe (eVar 1) (eOp1 pLen (eVar 0)) (eVar 2)))
def m_is_list_of : GF := fnV 3 noPin b_is_list_of
theorem fo_is_list_of (T : Txt K w mg) (F_is_list : Fv P w K mg base (cc K B) 1 "is_list" 1 m_is_list) : ∃ f fd, mg "is_list_of" = some (.ref f) ∧ FnOk P w K mg base (L2.CX P w) 2 f fd ["value", "least", "most"] (SpV (cc K B) 3 m_is_list_of) ∧ Fun K "is_list_of" "is_list_of" s_is_list_of f fd := by
  obtain ⟨f, fd, hm, Fn⟩ := T.d_is_list_of
  exact ⟨f, fd, hm, fn_ok (c := cc K B) (N := ["value", "least", "most"]) (pn := noPin) rfl Fn sc_is_list_of rfl (by decide) (fun cdv A outer s H E hr => vss_one (vs_ret (ve_and (ve_call F_is_list hr (by decide) rfl (takes_of rfl rfl rfl rfl) (va_cons (ve_var (pv 0)) (va_nil))) (ve_one (ve_chain op_le o_leB op_le o_le (ve_var (pv 1)) (ve_callB call_len2 (o_len rfl) rfl T.f_len b_len (ve_var (pv 0))) (ve_var (pv 2))))))), Fn⟩
theorem fv_is_list_of (T : Txt K w mg) (F_is_list : Fv P w K mg base (cc K B) 1 "is_list" 1 m_is_list) : Fv P w K mg base (cc K B) 2 "is_list_of" 3 m_is_list_of := by
  obtain ⟨f, fd, hm, ok, Fn⟩ := fo_is_list_of (P := P) (base := base) (B := B) T F_is_list
  exact ⟨f, fd, ["value", "least", "most"], rfl, hm, ok, Fn.kp, Fn.binds fun _ _ _ _ _ _ us hl => match us, hl with | [_, _, _], _ => rfl⟩
theorem sc_is_tuple_of : FnScope ["value", "many"] ["value", "many"] (defScope s_is_tuple_of) := ⟨rfl, rfl, rfl, by decide +kernel, rfl, by decide +kernel, by decide +kernel⟩
def b_is_tuple_of : GS := sRet (eAnd (eOp1 (pIsi "tuple") (eVar 0)) (eOp2 pEq (eOp1 pLen (eVar 0)) (eVar 1)))
def m_is_tuple_of : GF := fnV 2 noPin b_is_tuple_of
theorem fo_is_tuple_of (T : Txt K w mg)  : ∃ f fd, mg "is_tuple_of" = some (.ref f) ∧ FnOk P w K mg base (L2.CX P w) 1 f fd ["value", "many"] (SpV (cc K B) 2 m_is_tuple_of) ∧ Fun K "is_tuple_of" "is_tuple_of" s_is_tuple_of f fd := by
  obtain ⟨f, fd, hm, Fn⟩ := T.d_is_tuple_of
  exact ⟨f, fd, hm, fn_ok (c := cc K B) (N := ["value", "many"]) (pn := noPin) rfl Fn sc_is_tuple_of rfl (by decide) (fun cdv A outer s H E hr => vss_one (vs_ret (ve_and (ve_isi rfl rfl T.f_isinstance b_isinstance (ve_var (pv 0)) rfl T.f_tuple b_tuple) (ve_one (ve_cmp (op_eq2 (hu64 hr)) (o_eq rfl) rfl (ve_callB call_len2 (o_len rfl) rfl T.f_len b_len (ve_var (pv 0))) (ve_var (pv 1))))))), Fn⟩
theorem fv_is_tuple_of (T : Txt K w mg)  : Fv P w K mg base (cc K B) 1 "is_tuple_of" 2 m_is_tuple_of := by
  obtain ⟨f, fd, hm, ok, Fn⟩ := fo_is_tuple_of (P := P) (base := base) (B := B) T 
  exact ⟨f, fd, ["value", "many"], rfl, hm, ok, Fn.kp, Fn.binds fun _ _ _ _ _ _ us hl => match us, hl with | [_, _], _ => rfl⟩
theorem sc_is_ascending : FnScope ["items", "at"] ["items"] (defScope s_is_ascending) := ⟨rfl, rfl, rfl, by decide +kernel, rfl, by decide +kernel, by decide +kernel⟩
def b_is_ascending : GS := sRet (eOp1 pAll (eLst (lLc [1] (iRng (eOp2 pSub (eOp1 pLen (eVar 0)) (eC (.int 1)))) (gN 1) (gYes) (eOp2 pLtT (eOp2 pIx (eVar 0) (eVar 1)) (eOp2 pIx (eVar 0) (eOp2 pAdd (eVar 1) (eC (.int 1))))))))
def m_is_ascending : GF := fnV 2 noPin b_is_ascending
theorem fo_is_ascending (T : Txt K w mg)  : ∃ f fd, mg "is_ascending" = some (.ref f) ∧ FnOk P w K mg base (L2.CX P w) 1 f fd ["items"] (SpV (cc K B) 1 m_is_ascending) ∧ Fun K "is_ascending" "is_ascending" s_is_ascending f fd := by
  obtain ⟨f, fd, hm, Fn⟩ := T.d_is_ascending
  exact ⟨f, fd, hm, fn_ok (c := cc K B) (N := ["items", "at"]) (pn := noPin) rfl Fn sc_is_ascending rfl (by decide) (fun cdv A outer s H E hr => vss_one (vs_ret (ve_callB (cr_all rfl) (o_all rfl) rfl T.f_all b_all (ve_lst (vl_lc rfl sc_is_ascending.nd (vi_rng rfl T.f_range (ve_op op_sub o_sub (ve_callB call_len2 (o_len rfl) rfl T.f_len b_len (ve_var (pv 0))) (ve_int))) (blkOk_by (own := [("at", 1)]) (by kernel_rfl)) (fun _ _ _ _ _ => pg_name (i := 1) sc_is_ascending.nd rfl (by first | exact .inl rfl | exact .inr rfl)) (tg_name 1) (fun _ _ _ _ _ => vts_nil) (fun _ _ _ _ _ => ve_cmp (op_ltA (hu0 hr)) (o_ltA rfl) rfl (ve_ix (ix_4 (hu1 hr)) (o_ix rfl) (ve_var (pv 0)) (ve_var (pv 1))) (ve_ix (ix_4 (hu1 hr)) (o_ix rfl) (ve_var (pv 0)) (ve_op op_add4 (o_add rfl) (ve_var (pv 1)) (ve_int))))))))), Fn⟩
theorem fv_is_ascending (T : Txt K w mg)  : Fv P w K mg base (cc K B) 1 "is_ascending" 1 m_is_ascending := by
  obtain ⟨f, fd, hm, ok, Fn⟩ := fo_is_ascending (P := P) (base := base) (B := B) T 
  exact ⟨f, fd, ["items"], rfl, hm, ok, Fn.kp, Fn.binds fun _ _ _ _ _ _ us hl => match us, hl with | [_], _ => rfl⟩
theorem sc_is_comings : FnScope ["value", "marks", "states", "mark", "to", "one"] ["value", "marks", "states"] (defScope s_is_comings) := ⟨rfl, rfl, rfl, by decide +kernel, rfl, by decide +kernel, by decide +kernel⟩
def b_is_comings : GS := sSeq (sIf (gOr (gNot (gVal (eOp1 (pIsi "tuple") (eVar 0)))) (gOr (gBl (eOp2 pEq (eOp1 pLen (eVar 0)) (eC (.int 0)))) (gNot (gVal (eOp1 pAll (eLst (lLc [5] (iSeq (eVar 0)) (gN 5) (gYes) (eCall m_is_tuple_of (aCons (eVar 5) (aCons (eC (.int 2)) (aNil))))))))))) (sRet (eC (.bl false))) (sNil)) (sSeq (sIf (gNot (gVal (eOp1 pAll (eLst (lLc [3, 4] (iSeq (eVar 0)) (gT [3, 4]) (gYes) (eAnd (eCall m_is_between (aCons (eVar 3) (aCons (eC (.int 0)) (aCons (eOp2 pSub (eVar 1) (eC (.int 1))) (aNil))))) (eCall m_is_between (aCons (eVar 4) (aCons (eC (.int 0)) (aCons (eOp2 pSub (eVar 2) (eC (.int 1))) (aNil))))))))))) (sRet (eC (.bl false))) (sNil)) (sRet (eCall m_is_ascending (aCons (eVar 0) (aNil)))))
def m_is_comings : GF := fnV 6 noPin b_is_comings
theorem fo_is_comings (T : Txt K w mg) (F_is_tuple_of : Fv P w K mg base (cc K B) 1 "is_tuple_of" 2 m_is_tuple_of) (F_is_between : Fv P w K mg base (cc K B) 2 "is_between" 3 m_is_between) (F_is_ascending : Fv P w K mg base (cc K B) 1 "is_ascending" 1 m_is_ascending) : ∃ f fd, mg "is_comings" = some (.ref f) ∧ FnOk P w K mg base (L2.CX P w) 3 f fd ["value", "marks", "states"] (SpV (cc K B) 3 m_is_comings) ∧ Fun K "is_comings" "is_comings" s_is_comings f fd := by
  obtain ⟨f, fd, hm, Fn⟩ := T.d_is_comings
  exact ⟨f, fd, hm, fn_ok (c := cc K B) (N := ["value", "marks", "states", "mark", "to", "one"]) (pn := noPin) rfl Fn sc_is_comings rfl (by decide) (fun cdv A outer s H E hr => vss_cons (vs_if (vt_pw (vw_or (vt_not (vt_val rfl (ve_isi rfl rfl T.f_isinstance b_isinstance (ve_var (pv 0)) rfl T.f_tuple b_tuple))) (vw_or (vt_cmp (op_eq2 (hu64 hr)) (o_eq rfl) rfl (ve_callB call_len2 (o_len rfl) rfl T.f_len b_len (ve_var (pv 0))) (ve_int)) (vw_or1 (vt_not (vt_val rfl (ve_callB (cr_all rfl) (o_all rfl) rfl T.f_all b_all (ve_lst (vl_lc rfl sc_is_comings.nd (vi_seq rfl (ve_var (pv 0))) (blkOk_by (own := [("one", 5)]) (by kernel_rfl)) (fun _ _ _ _ _ => pg_name (i := 5) sc_is_comings.nd rfl (by first | exact .inl rfl | exact .inr rfl)) (tg_name 5) (fun _ _ _ _ _ => vts_nil) (fun _ _ _ _ _ => ve_call F_is_tuple_of hr (by decide) rfl (takes_W0) (va_cons (ve_var (pv 5)) (va_cons (ve_int) (va_nil))))))))))))) (vss_one (vs_ret (ve_bl))) (vss_nil)) (vss_cons (vs_if (vt_not (vt_val rfl (ve_callB (cr_all rfl) (o_all rfl) rfl T.f_all b_all (ve_lst (vl_lc rfl sc_is_comings.nd (vi_seq rfl (ve_var (pv 0))) (blkOk_by (own := [("mark", 3), ("to", 4)]) (by kernel_rfl)) (fun _ _ _ _ _ => pg_tup rfl (pgs_cons (pg_name (i := 3) sc_is_comings.nd rfl (by first | exact .inl rfl | exact .inr rfl)) (pgs_cons (pg_name (i := 4) sc_is_comings.nd rfl (by first | exact .inl rfl | exact .inr rfl)) (pgs_nil)))) (tg_tup rfl (.cons (.cons (.nil)))) (fun _ _ _ _ _ => vts_nil) (fun _ _ _ _ _ => ve_and (ve_call F_is_between hr (by decide) rfl (takes_W0) (va_cons (ve_var (pv 3)) (va_cons (ve_int) (va_cons (ve_op op_sub o_sub (ve_var (pv 1)) (ve_int)) (va_nil))))) (ve_one (ve_call F_is_between hr (by decide) rfl (takes_W0) (va_cons (ve_var (pv 4)) (va_cons (ve_int) (va_cons (ve_op op_sub o_sub (ve_var (pv 2)) (ve_int)) (va_nil)))))))))))) (vss_one (vs_ret (ve_bl))) (vss_nil)) (vss_one (vs_ret (ve_call F_is_ascending hr (by decide) rfl (takes_of rfl rfl rfl rfl) (va_cons (ve_var (pv 0)) (va_nil))))))), Fn⟩
theorem fv_is_comings (T : Txt K w mg) (F_is_tuple_of : Fv P w K mg base (cc K B) 1 "is_tuple_of" 2 m_is_tuple_of) (F_is_between : Fv P w K mg base (cc K B) 2 "is_between" 3 m_is_between) (F_is_ascending : Fv P w K mg base (cc K B) 1 "is_ascending" 1 m_is_ascending) : Fv P w K mg base (cc K B) 3 "is_comings" 3 m_is_comings := by
  obtain ⟨f, fd, hm, ok, Fn⟩ := fo_is_comings (P := P) (base := base) (B := B) T F_is_tuple_of F_is_between F_is_ascending
  exact ⟨f, fd, ["value", "marks", "states"], rfl, hm, ok, Fn.kp, Fn.binds fun _ _ _ _ _ _ us hl => match us, hl with | [_, _, _], _ => rfl⟩
theorem sc_are_ways : FnScope ["ways", "marks", "row", "cell"] ["ways", "marks"] (defScope s_are_ways) := ⟨rfl, rfl, rfl, by decide +kernel, rfl, by decide +kernel, by decide +kernel⟩
def b_are_ways : GS := sSeq (sIf (gOr (gNot (gVal (eCall m_is_list_of (aCons (eVar 0) (aCons (eC (.int 1)) (aCons (eC (.int 8)) (aNil))))))) (gNot (gVal (eOp1 pAll (eLst (lLc [2] (iSeq (eVar 0)) (gN 2) (gYes) (eCall m_is_list_of (aCons (eVar 2) (aCons (eC (.int 1)) (aCons (eC (.int 6)) (aNil))))))))))) (sRet (eC (.bl false))) (sNil)) (sSeq (sIf (gNot (gVal (eOp1 pAll (eLst (lLc [2] (iSeq (eVar 0)) (gN 2) (gYes) (eOp2 pEq (eOp1 pLen (eVar 2)) (eOp1 pLen (eOp2 pIx (eVar 0) (eC (.int 0)))))))))) (sRet (eC (.bl false))) (sNil)) (sRet (eOp1 pAll (eLst (lLc2 [2, 3] [3] (iSeq (eVar 0)) (gN 2) (gYes) (iSeq (eVar 2)) (gN 3) (gYes) (eCall m_is_comings (aCons (eVar 3) (aCons (eVar 1) (aCons (eOp1 pLen (eVar 0)) (aNil))))))))))
def m_are_ways : GF := fnV 4 noPin b_are_ways
theorem fo_are_ways (T : Txt K w mg) (F_is_list_of : Fv P w K mg base (cc K B) 2 "is_list_of" 3 m_is_list_of) (F_is_comings : Fv P w K mg base (cc K B) 3 "is_comings" 3 m_is_comings) : ∃ f fd, mg "are_ways" = some (.ref f) ∧ FnOk P w K mg base (L2.CX P w) 4 f fd ["ways", "marks"] (SpV (cc K B) 2 m_are_ways) ∧ Fun K "are_ways" "are_ways" s_are_ways f fd := by
  obtain ⟨f, fd, hm, Fn⟩ := T.d_are_ways
  exact ⟨f, fd, hm, fn_ok (c := cc K B) (N := ["ways", "marks", "row", "cell"]) (pn := noPin) rfl Fn sc_are_ways rfl (by decide) (fun cdv A outer s H E hr => vss_cons (vs_if (vt_pw (vw_or (vt_not (vt_val rfl (ve_call F_is_list_of hr (by decide) rfl (takes_of rfl rfl rfl rfl) (va_cons (ve_var (pv 0)) (va_cons (ve_int) (va_cons (ve_gint rfl T.i_MOST_PLACES) (va_nil))))))) (vw_or1 (vt_not (vt_val rfl (ve_callB (cr_all rfl) (o_all rfl) rfl T.f_all b_all (ve_lst (vl_lc rfl sc_are_ways.nd (vi_seq rfl (ve_var (pv 0))) (blkOk_by (own := [("row", 2)]) (by kernel_rfl)) (fun _ _ _ _ _ => pg_name (i := 2) sc_are_ways.nd rfl (by first | exact .inl rfl | exact .inr rfl)) (tg_name 2) (fun _ _ _ _ _ => vts_nil) (fun _ _ _ _ _ => ve_call F_is_list_of hr (by decide) rfl (takes_W0) (va_cons (ve_var (pv 2)) (va_cons (ve_int) (va_cons (ve_gint rfl T.i_MOST_SIGNS) (va_nil))))))))))))) (vss_one (vs_ret (ve_bl))) (vss_nil)) (vss_cons (vs_if (vt_not (vt_val rfl (ve_callB (cr_all rfl) (o_all rfl) rfl T.f_all b_all (ve_lst (vl_lc rfl sc_are_ways.nd (vi_seq rfl (ve_var (pv 0))) (blkOk_by (own := [("row", 2)]) (by kernel_rfl)) (fun _ _ _ _ _ => pg_name (i := 2) sc_are_ways.nd rfl (by first | exact .inl rfl | exact .inr rfl)) (tg_name 2) (fun _ _ _ _ _ => vts_nil) (fun _ _ _ _ _ => ve_cmp (op_eq2 (hu64 hr)) (o_eq rfl) rfl (ve_callB call_len2 (o_len rfl) rfl T.f_len b_len (ve_var (pv 2))) (ve_callB call_len2 (o_len rfl) rfl T.f_len b_len (ve_ix (ix_4 (hu1 hr)) (o_ix rfl) (ve_var (pv 0)) (ve_int))))))))) (vss_one (vs_ret (ve_bl))) (vss_nil)) (vss_one (vs_ret (ve_callB (cr_all rfl) (o_all rfl) rfl T.f_all b_all (ve_lst (vl_lc2 rfl sc_are_ways.nd (vi_seq rfl (ve_var (pv 0))) (blkOk_by (own := [("row", 2), ("cell", 3)]) (by kernel_rfl)) (by decide) (fun _ _ _ _ _ => pg_name (i := 2) sc_are_ways.nd rfl (by first | exact .inl rfl | exact .inr rfl)) ((tg_name 2).more (by decide)) (fun _ _ _ _ _ => vts_nil) (fun _ _ _ _ _ => vi_seq rfl (ve_var (pv 2))) (fun _ _ _ _ _ => pg_name (i := 3) sc_are_ways.nd rfl (by first | exact .inl rfl | exact .inr rfl)) (tg_name 3) (fun _ _ _ _ _ => vts_nil) (fun _ _ _ _ _ => ve_call F_is_comings hr (by decide) rfl (takes_W0) (va_cons (ve_var (pv 3)) (va_cons (ve_var (pv 1)) (va_cons (ve_callB call_len2 (o_len rfl) rfl T.f_len b_len (ve_var (pv 0))) (va_nil)))))))))))), Fn⟩
theorem fv_are_ways (T : Txt K w mg) (F_is_list_of : Fv P w K mg base (cc K B) 2 "is_list_of" 3 m_is_list_of) (F_is_comings : Fv P w K mg base (cc K B) 3 "is_comings" 3 m_is_comings) : Fv P w K mg base (cc K B) 4 "are_ways" 2 m_are_ways := by
  obtain ⟨f, fd, hm, ok, Fn⟩ := fo_are_ways (P := P) (base := base) (B := B) T F_is_list_of F_is_comings
  exact ⟨f, fd, ["ways", "marks"], rfl, hm, ok, Fn.kp, Fn.binds fun _ _ _ _ _ _ us hl => match us, hl with | [_, _], _ => rfl⟩
theorem sc_are_told : FnScope ["ways", "row", "cell", "mark", "_"] ["ways"] (defScope s_are_told) := ⟨rfl, rfl, rfl, by decide +kernel, rfl, by decide +kernel, by decide +kernel⟩
def b_are_told : GS := sRet (eOp1 pAll (eLst (lLc2 [1, 2] [2] (iSeq (eVar 0)) (gN 1) (gYes) (iSeq (eVar 1)) (gN 2) (gYes) (eCall m_is_ascending (aCons (eLst (lLc [3, 4] (iSeq (eVar 2)) (gT [3, 4]) (gYes) (eVar 3))) (aNil))))))
def m_are_told : GF := fnV 5 noPin b_are_told
theorem fo_are_told (T : Txt K w mg) (F_is_ascending : Fv P w K mg base (cc K B) 1 "is_ascending" 1 m_is_ascending) : ∃ f fd, mg "are_told" = some (.ref f) ∧ FnOk P w K mg base (L2.CX P w) 2 f fd ["ways"] (SpV (cc K B) 1 m_are_told) ∧ Fun K "are_told" "are_told" s_are_told f fd := by
  obtain ⟨f, fd, hm, Fn⟩ := T.d_are_told
  exact ⟨f, fd, hm, fn_ok (c := cc K B) (N := ["ways", "row", "cell", "mark", "_"]) (pn := noPin) rfl Fn sc_are_told rfl (by decide) (fun cdv A outer s H E hr => vss_one (vs_ret (ve_callB (cr_all rfl) (o_all rfl) rfl T.f_all b_all (ve_lst (vl_lc2 rfl sc_are_told.nd (vi_seq rfl (ve_var (pv 0))) (blkOk_by (own := [("row", 1), ("cell", 2)]) (by kernel_rfl)) (by decide) (fun _ _ _ _ _ => pg_name (i := 1) sc_are_told.nd rfl (by first | exact .inl rfl | exact .inr rfl)) ((tg_name 1).more (by decide)) (fun _ _ _ _ _ => vts_nil) (fun _ _ _ _ _ => vi_seq rfl (ve_var (pv 1))) (fun _ _ _ _ _ => pg_name (i := 2) sc_are_told.nd rfl (by first | exact .inl rfl | exact .inr rfl)) (tg_name 2) (fun _ _ _ _ _ => vts_nil) (fun _ _ _ _ _ => ve_call F_is_ascending hr (by decide) rfl (takes_W0) (va_cons (ve_lst (vl_lc rfl sc_are_told.nd (vi_seq rfl (ve_var (pv 2))) (blkOk_by (own := [("mark", 3), ("_", 4)]) (by kernel_rfl)) (fun _ _ _ _ _ => pg_tup rfl (pgs_cons (pg_name (i := 3) sc_are_told.nd rfl (by first | exact .inl rfl | exact .inr rfl)) (pgs_cons (pg_name (i := 4) sc_are_told.nd rfl (by first | exact .inl rfl | exact .inr rfl)) (pgs_nil)))) (tg_tup rfl (.cons (.cons (.nil)))) (fun _ _ _ _ _ => vts_nil) (fun _ _ _ _ _ => ve_var (pv 3)))) (va_nil)))))))), Fn⟩
theorem fv_are_told (T : Txt K w mg) (F_is_ascending : Fv P w K mg base (cc K B) 1 "is_ascending" 1 m_is_ascending) : Fv P w K mg base (cc K B) 2 "are_told" 1 m_are_told := by
  obtain ⟨f, fd, hm, ok, Fn⟩ := fo_are_told (P := P) (base := base) (B := B) T F_is_ascending
  exact ⟨f, fd, ["ways"], rfl, hm, ok, Fn.kp, Fn.binds fun _ _ _ _ _ _ us hl => match us, hl with | [_], _ => rfl⟩
theorem sc_Line_init : FnScope ["self", "marks", "ways", "row"] ["self", "marks", "ways"] (defScope si_Line) := ⟨rfl, rfl, rfl, by decide +kernel, rfl, by decide +kernel, by decide +kernel⟩
def mi_Line : GIn := iCons (sIf (gNot (gVal (eCall m_is_between (aCons (eVar 1) (aCons (eC (.int 1)) (aCons (eC (.int 8)) (aNil))))))) (sRaise 2 "given" (eVar 1)) (sNil)) (iCons (sIf (gOr (gNot (gVal (eCall m_are_ways (aCons (eVar 2) (aCons (eVar 1) (aNil)))))) (gNot (gVal (eCall m_are_told (aCons (eVar 2) (aNil)))))) (sRaise 3 "given" (eVar 2)) (sNil)) (iEnd 5 [("marks", false, eVar 1), ("ways", false, eOp1 pTuple (eLst (lLc [3] (iSeq (eVar 2)) (gN 3) (gYes) (eOp1 pTuple (eVar 3))))), ("signs", true, eOp1 pLen (eOp2 pIx (eFld flds_Line "ways" 5 (eVar 0)) (eC (.int 0))))]))
def m_Line : GN := iniV 4 mi_Line
theorem nv_Line (T : Txt K w mg) (F_is_between : Fv P w K mg base (cc K B) 2 "is_between" 3 m_is_between) (X_InvalidMarks : Ec P w K mg base (cc K B) 1 "InvalidMarks" 2 "given") (F_are_ways : Fv P w K mg base (cc K B) 4 "are_ways" 2 m_are_ways) (F_are_told : Fv P w K mg base (cc K B) 2 "are_told" 1 m_are_told) (X_InvalidWays : Ec P w K mg base (cc K B) 1 "InvalidWays" 3 "given") : Nv P w K mg base (cc K B) 5 "Line" 5 2 m_Line := by
  obtain ⟨fd, Fn⟩ := T.ni_Line
  exact ⟨_, fd, ["self", "marks", "ways"], T.c_Line.M, T.g_Line, init_fn (c := cc K B) (N := ["self", "marks", "ways", "row"]) rfl Fn sc_Line_init rfl (by decide) (fun cdv A outer s H E hr => vi_cons (vs_if (vt_not (vt_val rfl (ve_call F_is_between hr (by decide) rfl (takes_of rfl rfl rfl rfl) (va_cons (ve_var (pv 1)) (va_cons (ve_int) (va_cons (ve_gint rfl T.i_MOST_MARKS) (va_nil))))))) (vss_one (vs_raise rfl X_InvalidMarks hr (by decide) rfl (takes_of rfl rfl rfl rfl) rfl (ve_var (pv 1)))) (vss_nil)) (vi_cons (vs_if (vt_pw (vw_or (vt_not (vt_val rfl (ve_call F_are_ways hr (by decide) rfl (takes_of rfl rfl rfl rfl) (va_cons (ve_var (pv 2)) (va_cons (ve_var (pv 1)) (va_nil)))))) (vw_or1 (vt_not (vt_val rfl (ve_call F_are_told hr (by decide) rfl (takes_of rfl rfl rfl rfl) (va_cons (ve_var (pv 2)) (va_nil)))))))) (vss_one (vs_raise rfl X_InvalidWays hr (by decide) rfl (takes_of rfl rfl rfl rfl) rfl (ve_var (pv 2)))) (vss_nil)) (vi_end (vf_put rfl T.c_Line (by decide) (pv 0) (ve_var (pv 1)) (vf_put rfl T.c_Line (by decide) (pv 0) (ve_callTy call_tuple2 (o_tuple rfl) rfl T.f_tuple b_tuple (ve_lst (vl_lc rfl sc_Line_init.nd (vi_seq rfl (ve_var (pv 2))) (blkOk_by (own := [("row", 3)]) (by kernel_rfl)) (fun _ _ _ _ _ => pg_name (i := 3) sc_Line_init.nd rfl (by first | exact .inl rfl | exact .inr rfl)) (tg_name 3) (fun _ _ _ _ _ => vts_nil) (fun _ _ _ _ _ => ve_callTy call_tuple2 (o_tuple rfl) rfl T.f_tuple b_tuple (ve_var (pv 3)))))) (vf_self rfl T.c_Line (by decide) (pv 0) (ve_callB call_len2 (o_len rfl) rfl T.f_len b_len (ve_ix (ix_4 (hu1 hr)) (o_ix rfl) (ve_fld rfl T.c_Line (ve_var (pv 0))) (ve_int))) (vf_nil))))))), Fn.binds fun _ _ _ _ _ _ us hl => match us, hl with | [_, _, _], _ => rfl⟩
theorem sc_Line_eqf : FnScope ["self", "other"] ["self", "other"] (defScope se_Line) := ⟨rfl, rfl, rfl, by decide +kernel, rfl, by decide +kernel, by decide +kernel⟩
def b_Line_eq : GS := sSeq (sIf (gNot (gVal (eOp1 (pIsC 5) (eVar 1)))) (sRet (eC (.bl false))) (sNil)) (sRet (eAnd (eOp2 pEq (eFld flds_Line "marks" 5 (eVar 0)) (eFld flds_Line "marks" 5 (eVar 1))) (eOp2 pEq (eFld flds_Line "ways" 5 (eVar 0)) (eFld flds_Line "ways" 5 (eVar 1)))))
def m_Line_eq : GF := fnV 2 noPin b_Line_eq
theorem qv_Line (T : Txt K w mg)  : EqT P w K mg base (cc K B) 1 5 m_Line_eq := by
  obtain ⟨fd, Fn⟩ := T.ne_Line
  exact ⟨⟨_, fd, ["self", "other"], T.q_Line.at_, T.q_Line.fn, fn_ok (c := cc K B) (N := ["self", "other"]) (pn := noPin) rfl Fn sc_Line_eqf rfl (by decide) (fun cdv A outer s H E hr => vss_cons (vs_if (vt_not (vt_val rfl (ve_isC rfl rfl T.f_isinstance b_isinstance (ve_var (pv 1)) rfl T.g_Line T.c_Line T.k_Line))) (vss_one (vs_ret (ve_bl))) (vss_nil)) (vss_one (vs_ret (ve_and (ve_cmp (op_eq2 (hu64 hr)) (o_eq rfl) rfl (ve_fld rfl T.c_Line (ve_var (pv 0))) (ve_fld rfl T.c_Line (ve_var (pv 1)))) (ve_one (ve_cmp (op_eq2 (hu64 hr)) (o_eq rfl) rfl (ve_fld rfl T.c_Line (ve_var (pv 0))) (ve_fld rfl T.c_Line (ve_var (pv 1))))))))), Fn.binds fun _ _ _ _ _ _ us hl => match us, hl with | [_, _], _ => rfl⟩, T.q_Line.nf⟩
theorem sc_state_behind : FnScope ["line", "value", "state", "one", "follows", "mark", "to"] ["line", "value"] (defScope s_state_behind) := ⟨rfl, rfl, rfl, by decide +kernel, rfl, by decide +kernel, by decide +kernel⟩
def b_state_behind : GS := sSeq (sIf (gNot (gVal (eCall m_is_list_of (aCons (eVar 1) (aCons (eC (.int 0)) (aCons (eC (.int 200)) (aNil))))))) (sRet (eC .non)) (sNil)) (sSeq (sSet 2 (eC (.int 0))) (sSeq (sFor (gN 3) (iSeq (eVar 1)) (sSeq (sIf (gOr (gNot (gVal (eCall m_is_tuple_of (aCons (eVar 3) (aCons (eC (.int 2)) (aNil)))))) (gOr (gNot (gVal (eCall m_is_between (aCons (eOp2 pIx (eVar 3) (eC (.int 0))) (aCons (eC (.int 0)) (aCons (eOp2 pSub (eFld flds_Line "signs" 5 (eVar 0)) (eC (.int 1))) (aNil))))))) (gNot (gVal (eCall m_is_whole (aCons (eOp2 pIx (eVar 3) (eC (.int 1))) (aNil))))))) (sRet (eC .non)) (sNil)) (sSeq (sSet 4 (eDc [5, 6] (iSeq (eOp2 pIx (eOp2 pIx (eFld flds_Line "ways" 5 (eVar 0)) (eVar 2)) (eOp2 pIx (eVar 3) (eC (.int 0))))) (gT [5, 6]) gYes (eVar 5) (eVar 6))) (sSeq (sIf (gBl (eOp2 pNotIn (eOp2 pIx (eVar 3) (eC (.int 1))) (eVar 4))) (sRet (eC .non)) (sNil)) (sSet 2 (eOp2 pIx (eVar 4) (eOp2 pIx (eVar 3) (eC (.int 1))))))))) (sRet (eVar 2))))
def m_state_behind : GF := fnV 7 noPin b_state_behind
theorem fo_state_behind (T : Txt K w mg) (F_is_list_of : Fv P w K mg base (cc K B) 2 "is_list_of" 3 m_is_list_of) (F_is_tuple_of : Fv P w K mg base (cc K B) 1 "is_tuple_of" 2 m_is_tuple_of) (F_is_between : Fv P w K mg base (cc K B) 2 "is_between" 3 m_is_between) (F_is_whole : Fv P w K mg base (cc K B) 1 "is_whole" 1 m_is_whole) : ∃ f fd, mg "state_behind" = some (.ref f) ∧ FnOk P w K mg base (L2.CX P w) 3 f fd ["line", "value"] (SpV (cc K B) 2 m_state_behind) ∧ Fun K "state_behind" "state_behind" s_state_behind f fd := by
  obtain ⟨f, fd, hm, Fn⟩ := T.d_state_behind
  exact ⟨f, fd, hm, fn_ok (c := cc K B) (N := ["line", "value", "state", "one", "follows", "mark", "to"]) (pn := noPin) rfl Fn sc_state_behind rfl (by decide) (fun cdv A outer s H E hr => vss_cons (vs_if (vt_not (vt_val rfl (ve_call F_is_list_of hr (by decide) rfl (takes_of rfl rfl rfl rfl) (va_cons (ve_var (pv 1)) (va_cons (ve_int) (va_cons (ve_gint rfl T.i_MOST_HEARD) (va_nil))))))) (vss_one (vs_ret (ve_non))) (vss_nil)) (vss_cons (vs_set (i := 2) sc_state_behind.nd rfl (by first | exact .inl rfl | exact .inr rfl) rfl (ve_int)) (vss_cons (vs_for (passes_of rfl) rfl (vi_seq rfl (ve_var (pv 1))) (pg_name (i := 3) sc_state_behind.nd rfl (by first | exact .inl rfl | exact .inr rfl)) (tg_name 3) (by decide) (vss_cons (vs_if (vt_pw (vw_or (vt_not (vt_val rfl (ve_call F_is_tuple_of hr (by decide) rfl (takes_of rfl rfl rfl rfl) (va_cons (ve_var (pv 3)) (va_cons (ve_int) (va_nil)))))) (vw_or (vt_not (vt_val rfl (ve_call F_is_between hr (by decide) rfl (takes_of rfl rfl rfl rfl) (va_cons (ve_ix (ix_4 (hu1 hr)) (o_ix rfl) (ve_var (pv 3)) (ve_int)) (va_cons (ve_int) (va_cons (ve_op op_sub o_sub (ve_fld rfl T.c_Line (ve_var (pv 0))) (ve_int)) (va_nil))))))) (vw_or1 (vt_not (vt_val rfl (ve_call F_is_whole hr (by decide) rfl (takes_of rfl rfl rfl rfl) (va_cons (ve_ix (ix_4 (hu1 hr)) (o_ix rfl) (ve_var (pv 3)) (ve_int)) (va_nil))))))))) (vss_one (vs_ret (ve_non))) (vss_nil)) (vss_cons (vs_setDc (i := 4) rfl sc_state_behind.nd rfl rfl rfl (sw_dict rfl rfl rfl (by decide +kernel)) (vi_seq rfl (ve_ix (ix_4 (hu1 hr)) (o_ix rfl) (ve_ix (ix_4 (hu1 hr)) (o_ix rfl) (ve_fld rfl T.c_Line (ve_var (pv 0))) (ve_var (pv 2))) (ve_ix (ix_4 (hu1 hr)) (o_ix rfl) (ve_var (pv 3)) (ve_int)))) (blkOk_by (own := [("mark", 5), ("to", 6)]) (by kernel_rfl)) (fun _ _ _ _ _ => pg_tup rfl (pgs_cons (pg_name (i := 5) sc_state_behind.nd rfl (by first | exact .inl rfl | exact .inr rfl)) (pgs_cons (pg_name (i := 6) sc_state_behind.nd rfl (by first | exact .inl rfl | exact .inr rfl)) (pgs_nil)))) (tg_tup rfl (.cons (.cons (.nil)))) (fun _ _ _ _ _ => vts_nil) (fun _ _ _ _ _ => ve_var (pv 5)) (fun _ _ _ _ _ => ve_var (pv 6))) (vss_cons (vs_if (vt_cmp (op_notInA (hu65 hr)) (o_notIn rfl) rfl (ve_ix (ix_4 (hu1 hr)) (o_ix rfl) (ve_var (pv 3)) (ve_int)) (ve_var (pv 4))) (vss_one (vs_ret (ve_non))) (vss_nil)) (vss_one (vs_set (i := 2) sc_state_behind.nd rfl (by first | exact .inl rfl | exact .inr rfl) rfl (ve_ix (ix_4 (hu1 hr)) (o_ix rfl) (ve_var (pv 4)) (ve_ix (ix_4 (hu1 hr)) (o_ix rfl) (ve_var (pv 3)) (ve_int))))))))) (vss_one (vs_ret (ve_var (pv 2))))))), Fn⟩
theorem fv_state_behind (T : Txt K w mg) (F_is_list_of : Fv P w K mg base (cc K B) 2 "is_list_of" 3 m_is_list_of) (F_is_tuple_of : Fv P w K mg base (cc K B) 1 "is_tuple_of" 2 m_is_tuple_of) (F_is_between : Fv P w K mg base (cc K B) 2 "is_between" 3 m_is_between) (F_is_whole : Fv P w K mg base (cc K B) 1 "is_whole" 1 m_is_whole) : Fv P w K mg base (cc K B) 3 "state_behind" 2 m_state_behind := by
  obtain ⟨f, fd, hm, ok, Fn⟩ := fo_state_behind (P := P) (base := base) (B := B) T F_is_list_of F_is_tuple_of F_is_between F_is_whole
  exact ⟨f, fd, ["line", "value"], rfl, hm, ok, Fn.kp, Fn.binds fun _ _ _ _ _ _ us hl => match us, hl with | [_, _], _ => rfl⟩
theorem sc_is_heard : FnScope ["line", "value"] ["line", "value"] (defScope s_is_heard) := ⟨rfl, rfl, rfl, by decide +kernel, rfl, by decide +kernel, by decide +kernel⟩
def b_is_heard : GS := sRet (eOp2 pIsNot (eCall m_state_behind (aCons (eVar 0) (aCons (eVar 1) (aNil)))) (eC .non))
def m_is_heard : GF := fnV 2 noPin b_is_heard
theorem fo_is_heard (T : Txt K w mg) (F_state_behind : Fv P w K mg base (cc K B) 3 "state_behind" 2 m_state_behind) : ∃ f fd, mg "is_heard" = some (.ref f) ∧ FnOk P w K mg base (L2.CX P w) 4 f fd ["line", "value"] (SpV (cc K B) 2 m_is_heard) ∧ Fun K "is_heard" "is_heard" s_is_heard f fd := by
  obtain ⟨f, fd, hm, Fn⟩ := T.d_is_heard
  exact ⟨f, fd, hm, fn_ok (c := cc K B) (N := ["line", "value"]) (pn := noPin) rfl Fn sc_is_heard rfl (by decide) (fun cdv A outer s H E hr => vss_one (vs_ret (ve_cmp op_isNot2 o_isNot rfl (ve_call F_state_behind hr (by decide) rfl (takes_of rfl rfl rfl rfl) (va_cons (ve_var (pv 0)) (va_cons (ve_var (pv 1)) (va_nil)))) (ve_non)))), Fn⟩
theorem fv_is_heard (T : Txt K w mg) (F_state_behind : Fv P w K mg base (cc K B) 3 "state_behind" 2 m_state_behind) : Fv P w K mg base (cc K B) 4 "is_heard" 2 m_is_heard := by
  obtain ⟨f, fd, hm, ok, Fn⟩ := fo_is_heard (P := P) (base := base) (B := B) T F_state_behind
  exact ⟨f, fd, ["line", "value"], rfl, hm, ok, Fn.kp, Fn.binds fun _ _ _ _ _ _ us hl => match us, hl with | [_, _], _ => rfl⟩
theorem sc_line_behind : FnScope ["line", "heard", "state"] ["line", "heard"] (defScope s_line_behind) := ⟨rfl, rfl, rfl, by decide +kernel, rfl, by decide +kernel, by decide +kernel⟩
def b_line_behind : GS := sSeq (sSet 2 (eCall m_state_behind (aCons (eVar 0) (aCons (eVar 1) (aNil))))) (sSeq (sIf (gBl (eOp2 pIs (eVar 2) (eC .non))) (sRaise 1 "given" (eVar 1)) (sNil)) (sRet (eVar 2)))
def m_line_behind : GF := fnV 3 noPin b_line_behind
theorem fo_line_behind (T : Txt K w mg) (F_state_behind : Fv P w K mg base (cc K B) 3 "state_behind" 2 m_state_behind) (X_InvalidHeard : Ec P w K mg base (cc K B) 1 "InvalidHeard" 1 "given") : ∃ f fd, mg "line_behind" = some (.ref f) ∧ FnOk P w K mg base (L2.CX P w) 4 f fd ["line", "heard"] (SpV (cc K B) 2 m_line_behind) ∧ Fun K "line_behind" "line_behind" s_line_behind f fd := by
  obtain ⟨f, fd, hm, Fn⟩ := T.d_line_behind
  exact ⟨f, fd, hm, fn_ok (c := cc K B) (N := ["line", "heard", "state"]) (pn := noPin) rfl Fn sc_line_behind rfl (by decide) (fun cdv A outer s H E hr => vss_cons (vs_set (i := 2) sc_line_behind.nd rfl (by first | exact .inl rfl | exact .inr rfl) rfl (ve_call F_state_behind hr (by decide) rfl (takes_of rfl rfl rfl rfl) (va_cons (ve_var (pv 0)) (va_cons (ve_var (pv 1)) (va_nil))))) (vss_cons (vs_if (vt_cmp op_is2 o_is rfl (ve_var (pv 2)) (ve_non)) (vss_one (vs_raise rfl X_InvalidHeard hr (by decide) rfl (takes_of rfl rfl rfl rfl) rfl (ve_var (pv 1)))) (vss_nil)) (vss_one (vs_ret (ve_var (pv 2)))))), Fn⟩
theorem fv_line_behind (T : Txt K w mg) (F_state_behind : Fv P w K mg base (cc K B) 3 "state_behind" 2 m_state_behind) (X_InvalidHeard : Ec P w K mg base (cc K B) 1 "InvalidHeard" 1 "given") : Fv P w K mg base (cc K B) 4 "line_behind" 2 m_line_behind := by
  obtain ⟨f, fd, hm, ok, Fn⟩ := fo_line_behind (P := P) (base := base) (B := B) T F_state_behind X_InvalidHeard
  exact ⟨f, fd, ["line", "heard"], rfl, hm, ok, Fn.kp, Fn.binds fun _ _ _ _ _ _ us hl => match us, hl with | [_, _], _ => rfl⟩
theorem sc_check_count : FnScope ["count", "most"] ["count", "most"] (defScope s_check_count) := ⟨rfl, rfl, rfl, by decide +kernel, rfl, by decide +kernel, by decide +kernel⟩
def b_check_count : GS := sIf (gBl (eOp2 pGt (eVar 0) (eVar 1))) (sRaise 4 "count" (eVar 0)) (sNil)
def m_check_count : GF := fnV 2 noPin b_check_count
theorem fo_check_count (T : Txt K w mg) (X_TooMany : Ec P w K mg base (cc K B) 1 "TooMany" 4 "count") : ∃ f fd, mg "check_count" = some (.ref f) ∧ FnOk P w K mg base (L2.CX P w) 3 f fd ["count", "most"] (SpV (cc K B) 2 m_check_count) ∧ Fun K "check_count" "check_count" s_check_count f fd := by
  obtain ⟨f, fd, hm, Fn⟩ := T.d_check_count
  exact ⟨f, fd, hm, fn_ok (c := cc K B) (N := ["count", "most"]) (pn := noPin) rfl Fn sc_check_count rfl (by decide) (fun cdv A outer s H E hr => vss_one (vs_if (vt_cmp op_gt o_gt rfl (ve_var (pv 0)) (ve_var (pv 1))) (vss_one (vs_raise rfl X_TooMany hr (by decide) rfl (takes_of rfl rfl rfl rfl) rfl (ve_var (pv 0)))) (vss_nil))), Fn⟩
theorem fv_check_count (T : Txt K w mg) (X_TooMany : Ec P w K mg base (cc K B) 1 "TooMany" 4 "count") : Fv P w K mg base (cc K B) 3 "check_count" 2 m_check_count := by
  obtain ⟨f, fd, hm, ok, Fn⟩ := fo_check_count (P := P) (base := base) (B := B) T X_TooMany
  exact ⟨f, fd, ["count", "most"], rfl, hm, ok, Fn.kp, Fn.binds fun _ _ _ _ _ _ us hl => match us, hl with | [_, _], _ => rfl⟩
theorem sc_lines_beside : FnScope ["first", "second", "many", "ways", "ours", "theirs", "row", "one", "other", "x", "to", "y", "at"] ["first", "second"] (defScope s_lines_beside) := ⟨rfl, rfl, rfl, by decide +kernel, rfl, by decide +kernel, by decide +kernel⟩
def b_lines_beside : GS := sSeq (sDrop (eCall m_check_count (aCons (eOp2 pMul (eFld flds_Line "signs" 5 (eVar 0)) (eFld flds_Line "signs" 5 (eVar 1))) (aCons (eC (.int 6)) (aNil))))) (sSeq (sDrop (eCall m_check_count (aCons (eOp2 pMul (eFld flds_Line "marks" 5 (eVar 0)) (eFld flds_Line "marks" 5 (eVar 1))) (aCons (eC (.int 8)) (aNil))))) (sSeq (sSet 2 (eOp1 pLen (eFld flds_Line "ways" 5 (eVar 1)))) (sSeq (sDrop (eCall m_check_count (aCons (eOp2 pMul (eOp1 pLen (eFld flds_Line "ways" 5 (eVar 0))) (eVar 2)) (aCons (eC (.int 8)) (aNil))))) (sSeq (sOwn 3 (lDisp (aNil))) (sSeq (sFor (gN 4) (iSeq (eFld flds_Line "ways" 5 (eVar 0))) (sFor (gN 5) (iSeq (eFld flds_Line "ways" 5 (eVar 1))) (sSeq (sOwn 6 (lDisp (aNil))) (sSeq (sFor (gN 7) (iSeq (eVar 4)) (sFor (gN 8) (iSeq (eVar 5)) (sAppO 6 (eOp1 pTuple (eLst (lLc2 [9, 10, 11, 12] [11, 12] (iSeq (eVar 7)) (gT [9, 10]) (gYes) (iSeq (eVar 8)) (gT [11, 12]) (gYes) (eTup (aCons (eOp2 pAdd (eOp2 pMul (eVar 9) (eFld flds_Line "marks" 5 (eVar 1))) (eVar 11)) (aCons (eOp2 pAdd (eOp2 pMul (eVar 10) (eVar 2)) (eVar 12)) (aNil)))))))))) (sPub 6 (sAppO 3 (eVar 6))))))) (sPub 3 (sRet (eNew 5 m_Line (aCons (eOp2 pMul (eFld flds_Line "marks" 5 (eVar 0)) (eFld flds_Line "marks" 5 (eVar 1))) (aCons (eVar 3) (aNil)))))))))))
def m_lines_beside : GF := fnV 13 noPin b_lines_beside
theorem fo_lines_beside (T : Txt K w mg) (F_check_count : Fv P w K mg base (cc K B) 3 "check_count" 2 m_check_count) (N_Line : Nv P w K mg base (cc K B) 5 "Line" 5 2 m_Line) : ∃ f fd, mg "lines_beside" = some (.ref f) ∧ FnOk P w K mg base (L2.CX P w) 7 f fd ["first", "second"] (SpV (cc K B) 2 m_lines_beside) ∧ Fun K "lines_beside" "lines_beside" s_lines_beside f fd := by
  obtain ⟨f, fd, hm, Fn⟩ := T.d_lines_beside
  exact ⟨f, fd, hm, fn_ok (c := cc K B) (N := ["first", "second", "many", "ways", "ours", "theirs", "row", "one", "other", "x", "to", "y", "at"]) (pn := noPin) rfl Fn sc_lines_beside rfl (by decide) (fun cdv A outer s H E hr => vss_cons (vs_expr (ve_call F_check_count hr (by decide) rfl (takes_of rfl rfl rfl rfl) (va_cons (ve_op op_mul2 o_mul (ve_fld rfl T.c_Line (ve_var (pv 0))) (ve_fld rfl T.c_Line (ve_var (pv 1)))) (va_cons (ve_gint rfl T.i_MOST_SIGNS) (va_nil))))) (vss_cons (vs_expr (ve_call F_check_count hr (by decide) rfl (takes_of rfl rfl rfl rfl) (va_cons (ve_op op_mul2 o_mul (ve_fld rfl T.c_Line (ve_var (pv 0))) (ve_fld rfl T.c_Line (ve_var (pv 1)))) (va_cons (ve_gint rfl T.i_MOST_MARKS) (va_nil))))) (vss_cons (vs_set (i := 2) sc_lines_beside.nd rfl (by first | exact .inl rfl | exact .inr rfl) rfl (ve_callB call_len2 (o_len rfl) rfl T.f_len b_len (ve_fld rfl T.c_Line (ve_var (pv 1))))) (vss_cons (vs_expr (ve_call F_check_count hr (by decide) rfl (takes_of rfl rfl rfl rfl) (va_cons (ve_op op_mul2 o_mul (ve_callB call_len2 (o_len rfl) rfl T.f_len b_len (ve_fld rfl T.c_Line (ve_var (pv 0)))) (ve_var (pv 2))) (va_cons (ve_gint rfl T.i_MOST_PLACES) (va_nil))))) (vss_cons (vs_own (i := 3) sc_lines_beside.nd rfl (by first | exact .inl rfl | exact .inr rfl) rfl (vl_disp (va_nil))) (vss_cons (vs_for (passes_of rfl) rfl (vi_seq rfl (ve_fld rfl T.c_Line (ve_var (pv 0)))) (pg_name (i := 4) sc_lines_beside.nd rfl (by first | exact .inl rfl | exact .inr rfl)) (tg_name 4) (by decide) (vss_one (vs_for (passes_of rfl) rfl (vi_seq rfl (ve_fld rfl T.c_Line (ve_var (pv 1)))) (pg_name (i := 5) sc_lines_beside.nd rfl (by first | exact .inl rfl | exact .inr rfl)) (tg_name 5) (by decide) (vss_cons (vs_own (i := 6) sc_lines_beside.nd rfl (by first | exact .inl rfl | exact .inr rfl) rfl (vl_disp (va_nil))) (vss_cons (vs_for (passes_of rfl) rfl (vi_seq rfl (ve_var (pv 4))) (pg_name (i := 7) sc_lines_beside.nd rfl (by first | exact .inl rfl | exact .inr rfl)) (tg_name 7) (by decide) (vss_one (vs_for (passes_of rfl) rfl (vi_seq rfl (ve_var (pv 5))) (pg_name (i := 8) sc_lines_beside.nd rfl (by first | exact .inl rfl | exact .inr rfl)) (tg_name 8) (by decide) (vss_one (vs_appO (pv 6) (ve_callTy call_tuple2 (o_tuple rfl) rfl T.f_tuple b_tuple (ve_lst (vl_lc2 rfl sc_lines_beside.nd (vi_seq rfl (ve_var (pv 7))) (blkOk_by (own := [("x", 9), ("to", 10), ("y", 11), ("at", 12)]) (by kernel_rfl)) (by decide) (fun _ _ _ _ _ => pg_tup rfl (pgs_cons (pg_name (i := 9) sc_lines_beside.nd rfl (by first | exact .inl rfl | exact .inr rfl)) (pgs_cons (pg_name (i := 10) sc_lines_beside.nd rfl (by first | exact .inl rfl | exact .inr rfl)) (pgs_nil)))) ((tg_tup rfl (.cons (.cons (.nil)))).more (by decide)) (fun _ _ _ _ _ => vts_nil) (fun _ _ _ _ _ => vi_seq rfl (ve_var (pv 8))) (fun _ _ _ _ _ => pg_tup rfl (pgs_cons (pg_name (i := 11) sc_lines_beside.nd rfl (by first | exact .inl rfl | exact .inr rfl)) (pgs_cons (pg_name (i := 12) sc_lines_beside.nd rfl (by first | exact .inl rfl | exact .inr rfl)) (pgs_nil)))) (tg_tup rfl (.cons (.cons (.nil)))) (fun _ _ _ _ _ => vts_nil) (fun _ _ _ _ _ => ve_tup (va_cons (ve_op op_add4 (o_add rfl) (ve_op op_mul2 o_mul (ve_var (pv 9)) (ve_fld rfl T.c_Line (ve_var (pv 1)))) (ve_var (pv 11))) (va_cons (ve_op op_add4 (o_add rfl) (ve_op op_mul2 o_mul (ve_var (pv 10)) (ve_var (pv 2))) (ve_var (pv 12))) (va_nil)))))))))))) (vss_pub (i := 6) (vss_one (vs_appO (pv 3) (ve_var (pv 6)))))))))) (vss_pub (i := 3) (vss_one (vs_ret (ve_new N_Line hr (by decide) rfl (takes_of rfl rfl rfl rfl) (va_cons (ve_op op_mul2 o_mul (ve_fld rfl T.c_Line (ve_var (pv 0))) (ve_fld rfl T.c_Line (ve_var (pv 1)))) (va_cons (ve_var (pv 3)) (va_nil))))))))))))), Fn⟩
theorem fv_lines_beside (T : Txt K w mg) (F_check_count : Fv P w K mg base (cc K B) 3 "check_count" 2 m_check_count) (N_Line : Nv P w K mg base (cc K B) 5 "Line" 5 2 m_Line) : Fv P w K mg base (cc K B) 7 "lines_beside" 2 m_lines_beside := by
  obtain ⟨f, fd, hm, ok, Fn⟩ := fo_lines_beside (P := P) (base := base) (B := B) T F_check_count N_Line
  exact ⟨f, fd, ["first", "second"], rfl, hm, ok, Fn.kp, Fn.binds fun _ _ _ _ _ _ us hl => match us, hl with | [_, _], _ => rfl⟩
theorem kv_lines_beside_second_first (T : Txt K w mg) (F_check_count : Fv P w K mg base (cc K B) 3 "check_count" 2 m_check_count) (N_Line : Nv P w K mg base (cc K B) 5 "Line" 5 2 m_Line) : FvK P w K mg base (cc K B) 7 "lines_beside" 2 m_lines_beside ["second", "first"] [1, 0] := by
  obtain ⟨f, fd, hm, ok, Fn⟩ := fo_lines_beside (P := P) (base := base) (B := B) T F_check_count N_Line
  refine ⟨f, fd, ["first", "second"], rfl, hm, ok, Fn.kp, fun s us hK hl => match us, hl with | [u0, u1], _ => ?_⟩
  obtain ⟨oc, od, kV, doc, pm, an, cdv, ct, osl, rfl, lk, hcd⟩ := Fn.ex
  exact BindsTo.of_eq (by first | rfl | with_unfolding_all rfl)
theorem sc__law_cell : FnScope ["script", "k"] ["script", "k"] (defScope s__law_cell) := ⟨rfl, rfl, rfl, by decide +kernel, rfl, by decide +kernel, by decide +kernel⟩
def b__law_cell : GS := sRet (eIf (gBl (eOp2 pLtT (eVar 1) (eOp1 pLen (eVar 0)))) (eOp2 pIx (eVar 0) (eVar 1)) (eOp2 pAdd (eOp2 pMul (eC (.int 7039)) (eVar 1)) (eOp2 pMod (eOp1 pInt (eOp1 pSum (eSl pSl (eVar 0) (oNone) (oSome (eC (.int 1)))))) (eC (.int 1000033)))))
def m__law_cell : GF := fnV 2 noPin b__law_cell
theorem fo__law_cell (T : Txt K w mg)  : ∃ f fd, mg "_law_cell" = some (.ref f) ∧ FnOk P w K mg base (L2.CX P w) 1 f fd ["script", "k"] (SpV (cc K B) 2 m__law_cell) ∧ Fun K "_law_cell" "_law_cell" s__law_cell f fd := by
  obtain ⟨f, fd, hm, Fn⟩ := T.d__law_cell
  exact ⟨f, fd, hm, fn_ok (c := cc K B) (N := ["script", "k"]) (pn := noPin) rfl Fn sc__law_cell rfl (by decide) (fun cdv A outer s H E hr => vss_one (vs_ret (ve_if (vt_cmp (op_ltA (hu0 hr)) (o_ltA rfl) rfl (ve_var (pv 1)) (ve_callB call_len2 (o_len rfl) rfl T.f_len b_len (ve_var (pv 0)))) (ve_ix (ix_4 (hu1 hr)) (o_ix rfl) (ve_var (pv 0)) (ve_var (pv 1))) (ve_op op_add4 (o_add rfl) (ve_op op_mul2 o_mul (ve_int) (ve_var (pv 1))) (ve_op op_mod o_mod (ve_callTy call_intS o_int rfl T.f_int b_int (ve_callB (cr_sum rfl) (o_sum rfl) rfl T.f_sum b_sum (ve_slice sl_3 (o_sl rfl) (ve_var (pv 0)) (vo_none) (vo_some (ve_int))))) (ve_int)))))), Fn⟩
theorem fv__law_cell (T : Txt K w mg)  : Fv P w K mg base (cc K B) 1 "_law_cell" 2 m__law_cell := by
  obtain ⟨f, fd, hm, ok, Fn⟩ := fo__law_cell (P := P) (base := base) (B := B) T 
  exact ⟨f, fd, ["script", "k"], rfl, hm, ok, Fn.kp, Fn.binds fun _ _ _ _ _ _ us hl => match us, hl with | [_, _], _ => rfl⟩
theorem sc__law_box : FnScope ["great"] ["great"] (defScope s__law_box) := ⟨rfl, rfl, rfl, by decide +kernel, rfl, by decide +kernel, by decide +kernel⟩
def b__law_box : GL := lDisp (aCons (eOp1 pAbs (eVar 0)) (aCons (eOp2 pGe (eOp1 pAbs (eVar 0)) (eOp2 pPow (eC (.int 10)) (eC (.int 18)))) (aCons (eOp2 pMod (eOp1 pInt (eOp1 pAbs (eVar 0))) (eC (.int 2147483629))) (aCons (eC (.int 0)) (aNil)))))
def m__law_box : GFL := fnL 1 b__law_box
theorem fv__law_box (T : Txt K w mg) : FvL P w K mg base (cc K B) 1 "_law_box" 1 m__law_box := by
  obtain ⟨f, fd, hm, Fn⟩ := T.d__law_box
  exact ⟨f, fd, ["great"], rfl, hm, fnL_ok (N := ["great"]) Fn sc__law_box rfl (by decide) rfl (fun cdv A outer s H E hr => vl_disp (va_cons (ve_callB call_abs o_abs rfl T.f_abs b_abs (ve_var (pv 0))) (va_cons (ve_cmp op_ge o_ge rfl (ve_callB call_abs o_abs rfl T.f_abs b_abs (ve_var (pv 0))) (ve_op op_pow o_pow (ve_int) (ve_int))) (va_cons (ve_op op_mod o_mod (ve_callTy call_intS o_int rfl T.f_int b_int (ve_callB call_abs o_abs rfl T.f_abs b_abs (ve_var (pv 0)))) (ve_int)) (va_cons (ve_int) (va_nil)))))), Fn.kp, Fn.binds fun _ _ _ _ _ _ us hl => match us, hl with | [_], _ => rfl⟩
theorem sc__law_take : FnScope ["box", "many", "digit", "mixed"] ["box", "many"] (defScope s__law_take) := ⟨rfl, rfl, rfl, by decide +kernel, rfl, by decide +kernel, by decide +kernel⟩
def b__law_take : GS := sSeq (sIf (gAnd (gVal (eIxO 0 (eC (.int 1)))) (gBl (eOp2 pGt (eIxO 0 (eC (.int 0))) (eC (.int 0))))) (sSeq (sSet 2 (eOp2 pMod (eOp1 pInt (eIxO 0 (eC (.int 0)))) (eVar 1))) (sSeq (sPutO 0 (eC (.int 0)) (eOp2 pFdiv (eIxO 0 (eC (.int 0))) (eVar 1))) (sRet (eVar 2)))) (sNil)) (sSeq (sPutO 0 (eC (.int 3)) (eOp2 pAdd (eIxO 0 (eC (.int 3))) (eC (.int 1)))) (sSeq (sSet 3 (eOp2 pMod (eOp1 pInt (eOp2 pPow (eOp2 pAdd (eOp2 pAdd (eIxO 0 (eC (.int 2))) (eOp2 pMul (eC (.int 15486209)) (eIxO 0 (eC (.int 3))))) (eC (.int 179424973))) (eC (.int 5)))) (eC (.int 2147483647)))) (sRet (eOp2 pMod (eOp1 pInt (eOp2 pFdiv (eOp2 pMod (eOp1 pInt (eOp2 pPow (eOp2 pAdd (eOp2 pMul (eVar 3) (eC (.int 48271))) (eOp2 pMul (eC (.int 104933)) (eIxO 0 (eC (.int 3))))) (eC (.int 3)))) (eC (.int 2147483587))) (eC (.int 64)))) (eVar 1)))))
def m__law_take : GF := fnV 4 pin0 b__law_take
theorem fo__law_take (T : Txt K w mg)  : ∃ f fd, mg "_law_take" = some (.ref f) ∧ FnOk P w K mg base (L2.CX P w) 1 f fd ["box", "many"] (SpV (cc K B) 2 m__law_take) ∧ Fun K "_law_take" "_law_take" s__law_take f fd := by
  obtain ⟨f, fd, hm, Fn⟩ := T.d__law_take
  exact ⟨f, fd, hm, fn_ok (c := cc K B) (N := ["box", "many", "digit", "mixed"]) (pn := pin0) rfl Fn sc__law_take rfl (by decide) (fun cdv A outer s H E hr => vss_cons (vs_if (vt_pw (vw_and (vt_val rfl (ve_ixO rfl (pv 0) (ve_int))) (vw_and1 (vt_cmp op_gt o_gt rfl (ve_ixO rfl (pv 0) (ve_int)) (ve_int))))) (vss_cons (vs_set (i := 2) sc__law_take.nd rfl (by first | exact .inl rfl | exact .inr rfl) rfl (ve_op op_mod o_mod (ve_callTy call_intS o_int rfl T.f_int b_int (ve_ixO rfl (pv 0) (ve_int))) (ve_var (pv 1)))) (vss_cons (vs_putO (pv 0) (ve_int) (ve_op op_fdiv o_fdiv (ve_ixO rfl (pv 0) (ve_int)) (ve_var (pv 1)))) (vss_one (vs_ret (ve_var (pv 2)))))) (vss_nil)) (vss_cons (vs_putO (pv 0) (ve_int) (ve_op op_add4 (o_add rfl) (ve_ixO rfl (pv 0) (ve_int)) (ve_int))) (vss_cons (vs_set (i := 3) sc__law_take.nd rfl (by first | exact .inl rfl | exact .inr rfl) rfl (ve_op op_mod o_mod (ve_callTy call_intS o_int rfl T.f_int b_int (ve_op op_pow o_pow (ve_op op_add4 (o_add rfl) (ve_op op_add4 (o_add rfl) (ve_ixO rfl (pv 0) (ve_int)) (ve_op op_mul2 o_mul (ve_int) (ve_ixO rfl (pv 0) (ve_int)))) (ve_int)) (ve_int))) (ve_int))) (vss_one (vs_ret (ve_op op_mod o_mod (ve_callTy call_intS o_int rfl T.f_int b_int (ve_op op_fdiv o_fdiv (ve_op op_mod o_mod (ve_callTy call_intS o_int rfl T.f_int b_int (ve_op op_pow o_pow (ve_op op_add4 (o_add rfl) (ve_op op_mul2 o_mul (ve_var (pv 3)) (ve_int)) (ve_op op_mul2 o_mul (ve_int) (ve_ixO rfl (pv 0) (ve_int)))) (ve_int))) (ve_int)) (ve_int))) (ve_var (pv 1)))))))), Fn⟩
theorem fv__law_take (T : Txt K w mg)  : Fv P w K mg base (cc K B) 1 "_law_take" 2 m__law_take := by
  obtain ⟨f, fd, hm, ok, Fn⟩ := fo__law_take (P := P) (base := base) (B := B) T 
  exact ⟨f, fd, ["box", "many"], rfl, hm, ok, Fn.kp, Fn.binds fun _ _ _ _ _ _ us hl => match us, hl with | [_, _], _ => rfl⟩
theorem sc__law_same : FnScope ["told", "due", "k"] ["told", "due"] (defScope s__law_same) := ⟨rfl, rfl, rfl, by decide +kernel, rfl, by decide +kernel, by decide +kernel⟩
def b__law_same (m : GF) : GS := sSeq (sIf (gOr (gBl (eOp2 pIs (eVar 1) (eC .non))) (gVal (eOp1 (pIsi "bool") (eVar 1)))) (sRet (eIf (gBl (eOp2 pIs (eVar 1) (eC .non))) (eOp2 pIs (eVar 0) (eC .non)) (eAnd (eOp1 (pIsi "bool") (eVar 0)) (eOp2 pEq (eOp2 pIs (eVar 0) (eC (.bl true))) (eOp2 pIs (eVar 1) (eC (.bl true))))))) (sNil)) (sSeq (sIf (gVal (eOp1 (pIsi "int") (eVar 1))) (sRet (eAnd (eOp1 (pIsi "int") (eVar 0)) (eAnd (eNot (eOp1 (pIsi "bool") (eVar 0))) (eOp2 pEq (eOp2 pSub (eOp1 pInt (eVar 0)) (eVar 1)) (eC (.int 0)))))) (sNil)) (sSeq (sIf (gVal (eOp1 (pIsi "str") (eVar 1))) (sRet (eAnd (eOp1 (pIsi "str") (eVar 0)) (eAnd (eOp2 pEq (eOp1 pLen (eVar 0)) (eOp1 pLen (eVar 1))) (eOp2 pEq (eLst (lLc [2] (iRng (eOp1 pLen (eVar 1))) (gN 2) (gBl (eOp2 pNe (eSl pSl (eVar 0) (oSome (eVar 2)) (oSome (eOp2 pAdd (eVar 2) (eC (.int 1))))) (eOp2 pIx (eVar 1) (eVar 2)))) (eVar 2))) (eLst (lDisp (aNil))))))) (sNil)) (sSeq (sIf (gOr (gBl (eOp2 pNe (eOp1 (pIsi "list") (eVar 0)) (eOp1 (pIsi "list") (eVar 1)))) (gBl (eOp2 pNe (eOp1 (pIsi "tuple") (eVar 0)) (eOp1 (pIsi "tuple") (eVar 1))))) (sRet (eC (.bl false))) (sNil)) (sRet (eAnd (eOp2 pEq (eOp1 pLen (eVar 0)) (eOp1 pLen (eVar 1))) (eOp2 pEq (eLst (lLc [2] (iRng (eOp1 pLen (eVar 1))) (gN 2) (gNot (gVal (eCall m (aCons (eOp2 pIx (eVar 0) (eVar 2)) (aCons (eOp2 pIx (eVar 1) (eVar 2)) (aNil)))))) (eVar 2))) (eLst (lDisp (aNil)))))))))
def m__law_same : Nat → GF
  | 0 => fNo
  | n + 1 => fnV 3 noPin (b__law_same (m__law_same n))
abbrev r__law_same : GF := m__law_same 12
theorem st__law_same (T : Txt K w mg) {j : Nat} {m : GF} (F__law_same : Fv P w K mg base (cc K B) j "_law_same" 2 m) : Fv P w K mg base (cc K B) (j + 1) "_law_same" 2 (fnV 3 noPin (b__law_same m)) := by
  obtain ⟨f, fd, hm, Fn⟩ := T.d__law_same
  exact ⟨f, fd, ["told", "due"], rfl, hm, fn_ok (c := cc K B) (N := ["told", "due", "k"]) (pn := noPin) rfl Fn sc__law_same rfl (by decide) (fun cdv A outer s H E hr => vss_cons (vs_if (vt_pw (vw_or (vt_cmp op_is2 o_is rfl (ve_var (pv 1)) (ve_non)) (vw_or1 (vt_val rfl (ve_isi rfl rfl T.f_isinstance b_isinstance (ve_var (pv 1)) rfl T.f_bool b_bool))))) (vss_one (vs_ret (ve_if (vt_cmp op_is2 o_is rfl (ve_var (pv 1)) (ve_non)) (ve_cmp op_is2 o_is rfl (ve_var (pv 0)) (ve_non)) (ve_and (ve_isi rfl rfl T.f_isinstance b_isinstance (ve_var (pv 0)) rfl T.f_bool b_bool) (ve_one (ve_cmp (op_eq2 (hu64 hr)) (o_eq rfl) rfl (ve_cmp op_is2 o_is rfl (ve_var (pv 0)) (ve_bl)) (ve_cmp op_is2 o_is rfl (ve_var (pv 1)) (ve_bl)))))))) (vss_nil)) (vss_cons (vs_if (vt_val rfl (ve_isi rfl rfl T.f_isinstance b_isinstance (ve_var (pv 1)) rfl T.f_int b_int)) (vss_one (vs_ret (ve_and (ve_isi rfl rfl T.f_isinstance b_isinstance (ve_var (pv 0)) rfl T.f_int b_int) (ve_and (ve_not (ve_isi rfl rfl T.f_isinstance b_isinstance (ve_var (pv 0)) rfl T.f_bool b_bool)) (ve_one (ve_cmp (op_eq2 (hu64 hr)) (o_eq rfl) rfl (ve_op op_sub o_sub (ve_callTy call_intS o_int rfl T.f_int b_int (ve_var (pv 0))) (ve_var (pv 1))) (ve_int))))))) (vss_nil)) (vss_cons (vs_if (vt_val rfl (ve_isi rfl rfl T.f_isinstance b_isinstance (ve_var (pv 1)) rfl T.f_str b_str)) (vss_one (vs_ret (ve_and (ve_isi rfl rfl T.f_isinstance b_isinstance (ve_var (pv 0)) rfl T.f_str b_str) (ve_and (ve_cmp (op_eq2 (hu64 hr)) (o_eq rfl) rfl (ve_callB call_len2 (o_len rfl) rfl T.f_len b_len (ve_var (pv 0))) (ve_callB call_len2 (o_len rfl) rfl T.f_len b_len (ve_var (pv 1)))) (ve_one (ve_cmp (op_eq2 (hu64 hr)) (o_eq rfl) rfl (ve_lst (vl_lc rfl sc__law_same.nd (vi_rng rfl T.f_range (ve_callB call_len2 (o_len rfl) rfl T.f_len b_len (ve_var (pv 1)))) (blkOk_by (own := [("k", 2)]) (by kernel_rfl)) (fun _ _ _ _ _ => pg_name (i := 2) sc__law_same.nd rfl (by first | exact .inl rfl | exact .inr rfl)) (tg_name 2) (fun _ _ _ _ _ => vts_one (vt_cmp (op_ne2 (hu64 hr)) (o_ne rfl) rfl (ve_slice sl_3 (o_sl rfl) (ve_var (pv 0)) (vo_some (ve_var (pv 2))) (vo_some (ve_op op_add4 (o_add rfl) (ve_var (pv 2)) (ve_int)))) (ve_ix (ix_4 (hu1 hr)) (o_ix rfl) (ve_var (pv 1)) (ve_var (pv 2))))) (fun _ _ _ _ _ => ve_var (pv 2)))) (ve_lst (vl_disp (va_nil))))))))) (vss_nil)) (vss_cons (vs_if (vt_pw (vw_or (vt_cmp (op_ne2 (hu64 hr)) (o_ne rfl) rfl (ve_isi rfl rfl T.f_isinstance b_isinstance (ve_var (pv 0)) rfl T.f_list b_list) (ve_isi rfl rfl T.f_isinstance b_isinstance (ve_var (pv 1)) rfl T.f_list b_list)) (vw_or1 (vt_cmp (op_ne2 (hu64 hr)) (o_ne rfl) rfl (ve_isi rfl rfl T.f_isinstance b_isinstance (ve_var (pv 0)) rfl T.f_tuple b_tuple) (ve_isi rfl rfl T.f_isinstance b_isinstance (ve_var (pv 1)) rfl T.f_tuple b_tuple))))) (vss_one (vs_ret (ve_bl))) (vss_nil)) (vss_one (vs_ret (ve_and (ve_cmp (op_eq2 (hu64 hr)) (o_eq rfl) rfl (ve_callB call_len2 (o_len rfl) rfl T.f_len b_len (ve_var (pv 0))) (ve_callB call_len2 (o_len rfl) rfl T.f_len b_len (ve_var (pv 1)))) (ve_one (ve_cmp (op_eq2 (hu64 hr)) (o_eq rfl) rfl (ve_lst (vl_lc rfl sc__law_same.nd (vi_rng rfl T.f_range (ve_callB call_len2 (o_len rfl) rfl T.f_len b_len (ve_var (pv 1)))) (blkOk_by (own := [("k", 2)]) (by kernel_rfl)) (fun _ _ _ _ _ => pg_name (i := 2) sc__law_same.nd rfl (by first | exact .inl rfl | exact .inr rfl)) (tg_name 2) (fun _ _ _ _ _ => vts_one (vt_not (vt_val rfl (ve_call F__law_same hr (Nat.le_refl _) rfl (takes_W0) (va_cons (ve_ix (ix_4 (hu1 hr)) (o_ix rfl) (ve_var (pv 0)) (ve_var (pv 2))) (va_cons (ve_ix (ix_4 (hu1 hr)) (o_ix rfl) (ve_var (pv 1)) (ve_var (pv 2))) (va_nil))))))) (fun _ _ _ _ _ => ve_var (pv 2)))) (ve_lst (vl_disp (va_nil)))))))))))), Fn.kp, Fn.binds fun _ _ _ _ _ _ us hl => match us, hl with | [_, _], _ => rfl⟩
theorem fn__law_same (T : Txt K w mg) : ∀ n : Nat, Fv P w K mg base (cc K B) (n + 1) "_law_same" 2 (m__law_same n)
  | 0 => by
    obtain ⟨f, fd, hm, Fn⟩ := T.d__law_same
    exact ⟨f, fd, ["told", "due"], rfl, hm, fn_no Fn sc__law_same rfl, Fn.kp, Fn.binds fun _ _ _ _ _ _ us hl => match us, hl with | [_, _], _ => rfl⟩
  | n + 1 => st__law_same T (fn__law_same T n)
theorem fv__law_same (T : Txt K w mg) : Fv P w K mg base (cc K B) 13 "_law_same" 2 r__law_same := fn__law_same T 12
theorem sc__law_any_line : FnScope ["box", "signs", "marks", "states", "ways", "state", "row", "sign", "some", "mark"] ["box", "signs", "marks", "states"] (defScope s__law_any_line) := ⟨rfl, rfl, rfl, by decide +kernel, rfl, by decide +kernel, by decide +kernel⟩
def b__law_any_line : GS := sSeq (sOwn 4 (lDisp (aNil))) (sSeq (sFor (gN 5) (iRng (eVar 3)) (sSeq (sOwn 6 (lDisp (aNil))) (sSeq (sFor (gN 7) (iRng (eVar 1)) (sSeq (sSet 8 (eLst (lDisp (aCons (eCallB mTake 0 (aCons (eVar 2) (aNil))) (aCons (eCallB mTake 0 (aCons (eOp2 pMul (eC (.int 2)) (eVar 2)) (aNil))) (aCons (eCallB mTake 0 (aCons (eOp2 pMul (eC (.int 4)) (eVar 2)) (aNil))) (aNil))))))) (sAppO 6 (eOp1 pTuple (eLst (lLc [9] (iRng (eVar 2)) (gN 9) (gBl (eOp2 pIn (eVar 9) (eVar 8))) (eTup (aCons (eVar 9) (aCons (eCallB mTake 0 (aCons (eVar 3) (aNil))) (aNil)))))))))) (sPub 6 (sAppO 4 (eOp1 pTuple (eVar 6))))))) (sPub 4 (sRet (eLst (lDisp (aCons (eVar 2) (aCons (eVar 1) (aCons (eOp1 pTuple (eVar 4)) (aNil)))))))))
def m__law_any_line : GF := fnV 10 pin0 b__law_any_line
theorem fo__law_any_line (T : Txt K w mg) (F__law_take : Fv P w K mg base (cc K B) 1 "_law_take" 2 mTake) : ∃ f fd, mg "_law_any_line" = some (.ref f) ∧ FnOk P w K mg base (L2.CX P w) 2 f fd ["box", "signs", "marks", "states"] (SpV (cc K B) 4 m__law_any_line) ∧ Fun K "_law_any_line" "_law_any_line" s__law_any_line f fd := by
  obtain ⟨f, fd, hm, Fn⟩ := T.d__law_any_line
  exact ⟨f, fd, hm, fn_ok (c := cc K B) (N := ["box", "signs", "marks", "states", "ways", "state", "row", "sign", "some", "mark"]) (pn := pin0) rfl Fn sc__law_any_line rfl (by decide) (fun cdv A outer s H E hr => vss_cons (vs_own (i := 4) sc__law_any_line.nd rfl (by first | exact .inl rfl | exact .inr rfl) rfl (vl_disp (va_nil))) (vss_cons (vs_for (passes_of rfl) rfl (vi_rng rfl T.f_range (ve_var (pv 3))) (pg_name (i := 5) sc__law_any_line.nd rfl (by first | exact .inl rfl | exact .inr rfl)) (tg_name 5) (by decide) (vss_cons (vs_own (i := 6) sc__law_any_line.nd rfl (by first | exact .inl rfl | exact .inr rfl) rfl (vl_disp (va_nil))) (vss_cons (vs_for (passes_of rfl) rfl (vi_rng rfl T.f_range (ve_var (pv 1))) (pg_name (i := 7) sc__law_any_line.nd rfl (by first | exact .inl rfl | exact .inr rfl)) (tg_name 7) (by decide) (vss_cons (vs_set (i := 8) sc__law_any_line.nd rfl (by first | exact .inl rfl | exact .inr rfl) rfl (ve_lst (vl_disp (va_cons (ve_callB' F__law_take hr (by decide) rfl (takes_of rfl rfl rfl rfl) (pv 0) (va_cons (ve_var (pv 2)) (va_nil))) (va_cons (ve_callB' F__law_take hr (by decide) rfl (takes_of rfl rfl rfl rfl) (pv 0) (va_cons (ve_op op_mul2 o_mul (ve_int) (ve_var (pv 2))) (va_nil))) (va_cons (ve_callB' F__law_take hr (by decide) rfl (takes_of rfl rfl rfl rfl) (pv 0) (va_cons (ve_op op_mul2 o_mul (ve_int) (ve_var (pv 2))) (va_nil))) (va_nil))))))) (vss_one (vs_appO (pv 6) (ve_callTy call_tuple2 (o_tuple rfl) rfl T.f_tuple b_tuple (ve_lst (vl_lc rfl sc__law_any_line.nd (vi_rng rfl T.f_range (ve_var (pv 2))) (blkOk_by (own := [("mark", 9)]) (by kernel_rfl)) (fun _ _ _ _ _ => pg_name (i := 9) sc__law_any_line.nd rfl (by first | exact .inl rfl | exact .inr rfl)) (tg_name 9) (fun _ _ _ _ _ => vts_one (vt_cmp (op_inA (hu65 hr)) (o_in rfl) rfl (ve_var (pv 9)) (ve_var (pv 8)))) (fun _ _ _ _ _ => ve_tup (va_cons (ve_var (pv 9)) (va_cons (ve_callB' F__law_take hr (by decide) rfl (takes_W0) (pv 0) (va_cons (ve_var (pv 3)) (va_nil))) (va_nil))))))))))) (vss_pub (i := 6) (vss_one (vs_appO (pv 4) (ve_callTy call_tuple2 (o_tuple rfl) rfl T.f_tuple b_tuple (ve_var (pv 6))))))))) (vss_pub (i := 4) (vss_one (vs_ret (ve_lst (vl_disp (va_cons (ve_var (pv 2)) (va_cons (ve_var (pv 1)) (va_cons (ve_callTy call_tuple2 (o_tuple rfl) rfl T.f_tuple b_tuple (ve_var (pv 4))) (va_nil))))))))))), Fn⟩
theorem fv__law_any_line (T : Txt K w mg) (F__law_take : Fv P w K mg base (cc K B) 1 "_law_take" 2 mTake) : Fv P w K mg base (cc K B) 2 "_law_any_line" 4 m__law_any_line := by
  obtain ⟨f, fd, hm, ok, Fn⟩ := fo__law_any_line (P := P) (base := base) (B := B) T F__law_take
  exact ⟨f, fd, ["box", "signs", "marks", "states"], rfl, hm, ok, Fn.kp, Fn.binds fun _ _ _ _ _ _ us hl => match us, hl with | [_, _, _, _], _ => rfl⟩
theorem sc__law_is_line : FnScope ["value", "line", "same", "other"] ["value", "line"] (defScope s__law_is_line) := ⟨rfl, rfl, rfl, by decide +kernel, rfl, by decide +kernel, by decide +kernel⟩
def b__law_is_line : GS := sSeq (sIf (gOr (gNot (gVal (eOp1 (pIsC 5) (eVar 0)))) (gNot (gVal (eCall r__law_same (aCons (eLst (lDisp (aCons (eFld flds_Line "marks" 5 (eVar 0)) (aCons (eFld flds_Line "signs" 5 (eVar 0)) (aCons (eFld flds_Line "ways" 5 (eVar 0)) (aNil)))))) (aCons (eVar 1) (aNil))))))) (sRet (eC (.bl false))) (sNil)) (sSeq (sPar 2 3 (eNew 5 m_Line (aCons (eOp2 pIx (eVar 1) (eC (.int 0))) (aCons (eOp2 pIx (eVar 1) (eC (.int 2))) (aNil)))) (eNew 5 m_Line (aCons (eIf (gBl (eOp2 pLtT (eOp2 pIx (eVar 1) (eC (.int 0))) (eC (.int 8)))) (eOp2 pAdd (eOp2 pIx (eVar 1) (eC (.int 0))) (eC (.int 1))) (eC (.int 7))) (aCons (eIf (gBl (eOp2 pLtT (eOp2 pIx (eVar 1) (eC (.int 0))) (eC (.int 8)))) (eOp2 pIx (eVar 1) (eC (.int 2))) (eTup (aCons (eTup (aCons (eTup (aCons (eTup (aCons (eC (.int 0)) (aCons (eC (.int 0)) (aNil)))) (aNil))) (aNil))) (aNil)))) (aNil))))) (sRet (eCall r__law_same (aCons (eLst (lDisp (aCons (eEqI 5 m_Line_eq (eVar 0) (eVar 2)) (aCons (eEqI 5 m_Line_eq (eVar 2) (eVar 0)) (aCons (eEqI 5 m_Line_eq (eVar 0) (eVar 3)) (aCons (eEqI 5 m_Line_eq (eVar 3) (eVar 0)) (aCons (eEqI 5 m_Line_eq (eVar 0) (eC (.int 7))) (aNil)))))))) (aCons (eLst (lDisp (aCons (eC (.bl true)) (aCons (eC (.bl true)) (aCons (eC (.bl false)) (aCons (eC (.bl false)) (aCons (eC (.bl false)) (aNil)))))))) (aNil))))))
def m__law_is_line : GF := fnV 4 noPin b__law_is_line
theorem fo__law_is_line (T : Txt K w mg) (F__law_same : Fv P w K mg base (cc K B) 13 "_law_same" 2 r__law_same) (N_Line : Nv P w K mg base (cc K B) 5 "Line" 5 2 m_Line) (Q_Line : EqT P w K mg base (cc K B) 1 5 m_Line_eq) : ∃ f fd, mg "_law_is_line" = some (.ref f) ∧ FnOk P w K mg base (L2.CX P w) 14 f fd ["value", "line"] (SpV (cc K B) 2 m__law_is_line) ∧ Fun K "_law_is_line" "_law_is_line" s__law_is_line f fd := by
  obtain ⟨f, fd, hm, Fn⟩ := T.d__law_is_line
  exact ⟨f, fd, hm, fn_ok (c := cc K B) (N := ["value", "line", "same", "other"]) (pn := noPin) rfl Fn sc__law_is_line rfl (by decide) (fun cdv A outer s H E hr => vss_cons (vs_if (vt_pw (vw_or (vt_not (vt_val rfl (ve_isC rfl rfl T.f_isinstance b_isinstance (ve_var (pv 0)) rfl T.g_Line T.c_Line T.k_Line))) (vw_or1 (vt_not (vt_val rfl (ve_call F__law_same hr (by decide) rfl (takes_of rfl rfl rfl rfl) (va_cons (ve_lst (vl_disp (va_cons (ve_fld rfl T.c_Line (ve_var (pv 0))) (va_cons (ve_fld rfl T.c_Line (ve_var (pv 0))) (va_cons (ve_fld rfl T.c_Line (ve_var (pv 0))) (va_nil)))))) (va_cons (ve_var (pv 1)) (va_nil))))))))) (vss_one (vs_ret (ve_bl))) (vss_nil)) (vss_cons (vs_par (i := 2) (j := 3) rfl sc__law_is_line.nd rfl rfl (by decide) rfl rfl rfl rfl (ve_new N_Line hr (by decide) rfl (takes_of rfl rfl rfl rfl) (va_cons (ve_ix (ix_4 (hu1 hr)) (o_ix rfl) (ve_var (pv 1)) (ve_int)) (va_cons (ve_ix (ix_4 (hu1 hr)) (o_ix rfl) (ve_var (pv 1)) (ve_int)) (va_nil)))) (ve_new N_Line hr (by decide) rfl (takes_of rfl rfl rfl rfl) (va_cons (ve_if (vt_cmp (op_ltA (hu0 hr)) (o_ltA rfl) rfl (ve_ix (ix_4 (hu1 hr)) (o_ix rfl) (ve_var (pv 1)) (ve_int)) (ve_int)) (ve_op op_add4 (o_add rfl) (ve_ix (ix_4 (hu1 hr)) (o_ix rfl) (ve_var (pv 1)) (ve_int)) (ve_int)) (ve_int)) (va_cons (ve_if (vt_cmp (op_ltA (hu0 hr)) (o_ltA rfl) rfl (ve_ix (ix_4 (hu1 hr)) (o_ix rfl) (ve_var (pv 1)) (ve_int)) (ve_int)) (ve_ix (ix_4 (hu1 hr)) (o_ix rfl) (ve_var (pv 1)) (ve_int)) (ve_tup (va_cons (ve_tup (va_cons (ve_tup (va_cons (ve_tup (va_cons (ve_int) (va_cons (ve_int) (va_nil)))) (va_nil))) (va_nil))) (va_nil)))) (va_nil)))) rfl) (vss_one (vs_ret (ve_call F__law_same hr (by decide) rfl (takes_of rfl rfl rfl rfl) (va_cons (ve_lst (vl_disp (va_cons (ve_eqI Q_Line hr (by decide) (ve_var (pv 0)) (ve_var (pv 2))) (va_cons (ve_eqI Q_Line hr (by decide) (ve_var (pv 2)) (ve_var (pv 0))) (va_cons (ve_eqI Q_Line hr (by decide) (ve_var (pv 0)) (ve_var (pv 3))) (va_cons (ve_eqI Q_Line hr (by decide) (ve_var (pv 3)) (ve_var (pv 0))) (va_cons (ve_eqI Q_Line hr (by decide) (ve_var (pv 0)) (ve_int)) (va_nil)))))))) (va_cons (ve_lst (vl_disp (va_cons (ve_bl) (va_cons (ve_bl) (va_cons (ve_bl) (va_cons (ve_bl) (va_cons (ve_bl) (va_nil)))))))) (va_nil)))))))), Fn⟩
theorem fv__law_is_line (T : Txt K w mg) (F__law_same : Fv P w K mg base (cc K B) 13 "_law_same" 2 r__law_same) (N_Line : Nv P w K mg base (cc K B) 5 "Line" 5 2 m_Line) (Q_Line : EqT P w K mg base (cc K B) 1 5 m_Line_eq) : Fv P w K mg base (cc K B) 14 "_law_is_line" 2 m__law_is_line := by
  obtain ⟨f, fd, hm, ok, Fn⟩ := fo__law_is_line (P := P) (base := base) (B := B) T F__law_same N_Line Q_Line
  exact ⟨f, fd, ["value", "line"], rfl, hm, ok, Fn.kp, Fn.binds fun _ _ _ _ _ _ us hl => match us, hl with | [_, _], _ => rfl⟩
theorem sc__law_sizes : FnScope ["box", "flaw", "good", "bad"] ["box", "flaw", "good", "bad"] (defScope s__law_sizes) := ⟨rfl, rfl, rfl, by decide +kernel, rfl, by decide +kernel, by decide +kernel⟩
def b__law_sizes : GS := sRet (eIf (gVal (eVar 1)) (eOp2 pIx (eVar 3) (eCallB mTake 0 (aCons (eOp1 pLen (eVar 3)) (aNil)))) (eOp2 pIx (eVar 2) (eCallB mTake 0 (aCons (eOp1 pLen (eVar 2)) (aNil)))))
def m__law_sizes : GF := fnV 4 pin0 b__law_sizes
theorem fo__law_sizes (T : Txt K w mg) (F__law_take : Fv P w K mg base (cc K B) 1 "_law_take" 2 mTake) : ∃ f fd, mg "_law_sizes" = some (.ref f) ∧ FnOk P w K mg base (L2.CX P w) 2 f fd ["box", "flaw", "good", "bad"] (SpV (cc K B) 4 m__law_sizes) ∧ Fun K "_law_sizes" "_law_sizes" s__law_sizes f fd := by
  obtain ⟨f, fd, hm, Fn⟩ := T.d__law_sizes
  exact ⟨f, fd, hm, fn_ok (c := cc K B) (N := ["box", "flaw", "good", "bad"]) (pn := pin0) rfl Fn sc__law_sizes rfl (by decide) (fun cdv A outer s H E hr => vss_one (vs_ret (ve_if (vt_val rfl (ve_var (pv 1))) (ve_ix (ix_4 (hu1 hr)) (o_ix rfl) (ve_var (pv 3)) (ve_callB' F__law_take hr (by decide) rfl (takes_of rfl rfl rfl rfl) (pv 0) (va_cons (ve_callB call_len2 (o_len rfl) rfl T.f_len b_len (ve_var (pv 3))) (va_nil)))) (ve_ix (ix_4 (hu1 hr)) (o_ix rfl) (ve_var (pv 2)) (ve_callB' F__law_take hr (by decide) rfl (takes_of rfl rfl rfl rfl) (pv 0) (va_cons (ve_callB call_len2 (o_len rfl) rfl T.f_len b_len (ve_var (pv 2))) (va_nil))))))), Fn⟩
theorem fv__law_sizes (T : Txt K w mg) (F__law_take : Fv P w K mg base (cc K B) 1 "_law_take" 2 mTake) : Fv P w K mg base (cc K B) 2 "_law_sizes" 4 m__law_sizes := by
  obtain ⟨f, fd, hm, ok, Fn⟩ := fo__law_sizes (P := P) (base := base) (B := B) T F__law_take
  exact ⟨f, fd, ["box", "flaw", "good", "bad"], rfl, hm, ok, Fn.kp, Fn.binds fun _ _ _ _ _ _ us hl => match us, hl with | [_, _, _, _], _ => rfl⟩
theorem sc__law_lines : FnScope ["box", "flaw", "over", "signs", "marks", "states", "k"] ["box"] (defScope s__law_lines) := ⟨rfl, rfl, rfl, by decide +kernel, rfl, by decide +kernel, by decide +kernel⟩
def b__law_lines : GS := sSeq (sSet 1 (eOp2 pIx (eLst (lDisp (aCons (eC (.int 0)) (aCons (eC (.int 0)) (aCons (eC (.int 0)) (aCons (eC (.int 1)) (aCons (eC (.int 2)) (aCons (eC (.int 4)) (aCons (eOp2 pAdd (eC (.int 1)) (eCallB mTake 0 (aCons (eC (.int 7)) (aNil)))) (aCons (eOp2 pAdd (eC (.int 3)) (eOp2 pMul (eC (.int 4)) (eCallB mTake 0 (aCons (eC (.int 2)) (aNil))))) (aNil))))))))))) (eCallB mTake 0 (aCons (eC (.int 8)) (aNil))))) (sSeq (sSet 2 (eLst (lDisp (aCons (eTup (aCons (eC (.int 3)) (aCons (eC (.int 3)) (aNil)))) (aCons (eTup (aCons (eC (.int 2)) (aCons (eC (.int 5)) (aNil)))) (aCons (eTup (aCons (eC (.int 5)) (aCons (eC (.int 2)) (aNil)))) (aCons (eTup (aCons (eC (.int 4)) (aCons (eC (.int 3)) (aNil)))) (aCons (eTup (aCons (eC (.int 8)) (aCons (eC (.int 2)) (aNil)))) (aCons (eTup (aCons (eC (.int 4)) (aCons (eC (.int 4)) (aNil)))) (aCons (eTup (aCons (eC (.int 8)) (aCons (eC (.int 8)) (aNil)))) (aNil))))))))))) (sSeq (sSet 3 (eCallB m__law_sizes 0 (aCons (eOp2 pEq (eOp2 pMod (eOp1 pInt (eVar 1)) (eC (.int 2))) (eC (.int 1))) (aCons (eLst (lDisp (aCons (eTup (aCons (eC (.int 1)) (aCons (eC (.int 1)) (aNil)))) (aCons (eTup (aCons (eC (.int 2)) (aCons (eC (.int 2)) (aNil)))) (aCons (eTup (aCons (eC (.int 2)) (aCons (eC (.int 3)) (aNil)))) (aCons (eTup (aCons (eC (.int 3)) (aCons (eC (.int 2)) (aNil)))) (aCons (eTup (aCons (eC (.int 1)) (aCons (eC (.int 6)) (aNil)))) (aCons (eTup (aCons (eC (.int 6)) (aCons (eC (.int 1)) (aNil)))) (aCons (eTup (aCons (eC (.int 1)) (aCons (eC (.int 4)) (aNil)))) (aCons (eTup (aCons (eC (.int 5)) (aCons (eC (.int 1)) (aNil)))) (aNil))))))))))) (aCons (eLst (lDisp (aCons (eTup (aCons (eC (.int 2)) (aCons (eC (.int 4)) (aNil)))) (aCons (eTup (aCons (eC (.int 3)) (aCons (eC (.int 3)) (aNil)))) (aCons (eTup (aCons (eC (.int 4)) (aCons (eC (.int 2)) (aNil)))) (aCons (eTup (aCons (eC (.int 2)) (aCons (eC (.int 5)) (aNil)))) (aCons (eTup (aCons (eC (.int 6)) (aCons (eC (.int 2)) (aNil)))) (aCons (eTup (aCons (eC (.int 6)) (aCons (eC (.int 6)) (aNil)))) (aNil))))))))) (aNil)))))) (sSeq (sSet 4 (eCallB m__law_sizes 0 (aCons (eOp2 pEq (eOp2 pMod (eOp1 pInt (eOp2 pFdiv (eVar 1) (eC (.int 2)))) (eC (.int 2))) (eC (.int 1))) (aCons (eLst (lDisp (aCons (eTup (aCons (eC (.int 1)) (aCons (eC (.int 1)) (aNil)))) (aCons (eTup (aCons (eC (.int 2)) (aCons (eC (.int 2)) (aNil)))) (aCons (eTup (aCons (eC (.int 2)) (aCons (eC (.int 3)) (aNil)))) (aCons (eTup (aCons (eC (.int 3)) (aCons (eC (.int 2)) (aNil)))) (aCons (eTup (aCons (eC (.int 2)) (aCons (eC (.int 4)) (aNil)))) (aCons (eTup (aCons (eC (.int 4)) (aCons (eC (.int 2)) (aNil)))) (aCons (eTup (aCons (eC (.int 1)) (aCons (eC (.int 8)) (aNil)))) (aCons (eTup (aCons (eC (.int 8)) (aCons (eC (.int 1)) (aNil)))) (aCons (eTup (aCons (eC (.int 1)) (aCons (eC (.int 5)) (aNil)))) (aCons (eTup (aCons (eC (.int 7)) (aCons (eC (.int 1)) (aNil)))) (aNil))))))))))))) (aCons (eVar 2) (aNil)))))) (sSeq (sSet 5 (eCallB m__law_sizes 0 (aCons (eOp2 pEq (eOp2 pMod (eOp1 pInt (eOp2 pFdiv (eVar 1) (eC (.int 4)))) (eC (.int 2))) (eC (.int 1))) (aCons (eLst (lDisp (aCons (eTup (aCons (eC (.int 1)) (aCons (eC (.int 1)) (aNil)))) (aCons (eTup (aCons (eC (.int 2)) (aCons (eC (.int 2)) (aNil)))) (aCons (eTup (aCons (eC (.int 2)) (aCons (eC (.int 3)) (aNil)))) (aCons (eTup (aCons (eC (.int 3)) (aCons (eC (.int 2)) (aNil)))) (aCons (eTup (aCons (eC (.int 2)) (aCons (eC (.int 4)) (aNil)))) (aCons (eTup (aCons (eC (.int 4)) (aCons (eC (.int 2)) (aNil)))) (aCons (eTup (aCons (eC (.int 1)) (aCons (eC (.int 8)) (aNil)))) (aCons (eTup (aCons (eC (.int 8)) (aCons (eC (.int 1)) (aNil)))) (aCons (eTup (aCons (eC (.int 1)) (aCons (eC (.int 2)) (aNil)))) (aCons (eTup (aCons (eC (.int 2)) (aCons (eC (.int 1)) (aNil)))) (aNil))))))))))))) (aCons (eVar 2) (aNil)))))) (sRet (eLst (lLc [6] (iRng (eC (.int 2))) (gN 6) (gYes) (eCallB m__law_any_line 0 (aCons (eOp2 pIx (eVar 3) (eVar 6)) (aCons (eOp2 pIx (eVar 4) (eVar 6)) (aCons (eOp2 pIx (eVar 5) (eVar 6)) (aNil))))))))))))
def m__law_lines : GF := fnV 7 pin0 b__law_lines
theorem fo__law_lines (T : Txt K w mg) (F__law_take : Fv P w K mg base (cc K B) 1 "_law_take" 2 mTake) (F__law_sizes : Fv P w K mg base (cc K B) 2 "_law_sizes" 4 m__law_sizes) (F__law_any_line : Fv P w K mg base (cc K B) 2 "_law_any_line" 4 m__law_any_line) : ∃ f fd, mg "_law_lines" = some (.ref f) ∧ FnOk P w K mg base (L2.CX P w) 3 f fd ["box"] (SpV (cc K B) 1 m__law_lines) ∧ Fun K "_law_lines" "_law_lines" s__law_lines f fd := by
  obtain ⟨f, fd, hm, Fn⟩ := T.d__law_lines
  exact ⟨f, fd, hm, fn_ok (c := cc K B) (N := ["box", "flaw", "over", "signs", "marks", "states", "k"]) (pn := pin0) rfl Fn sc__law_lines rfl (by decide) (fun cdv A outer s H E hr => vss_cons (vs_set (i := 1) sc__law_lines.nd rfl (by first | exact .inl rfl | exact .inr rfl) rfl (ve_ix (ix_4 (hu1 hr)) (o_ix rfl) (ve_lst (vl_disp (va_cons (ve_int) (va_cons (ve_int) (va_cons (ve_int) (va_cons (ve_int) (va_cons (ve_int) (va_cons (ve_int) (va_cons (ve_op op_add4 (o_add rfl) (ve_int) (ve_callB' F__law_take hr (by decide) rfl (takes_of rfl rfl rfl rfl) (pv 0) (va_cons (ve_int) (va_nil)))) (va_cons (ve_op op_add4 (o_add rfl) (ve_int) (ve_op op_mul2 o_mul (ve_int) (ve_callB' F__law_take hr (by decide) rfl (takes_of rfl rfl rfl rfl) (pv 0) (va_cons (ve_int) (va_nil))))) (va_nil))))))))))) (ve_callB' F__law_take hr (by decide) rfl (takes_of rfl rfl rfl rfl) (pv 0) (va_cons (ve_int) (va_nil))))) (vss_cons (vs_set (i := 2) sc__law_lines.nd rfl (by first | exact .inl rfl | exact .inr rfl) rfl (ve_lst (vl_disp (va_cons (ve_tup (va_cons (ve_int) (va_cons (ve_int) (va_nil)))) (va_cons (ve_tup (va_cons (ve_int) (va_cons (ve_int) (va_nil)))) (va_cons (ve_tup (va_cons (ve_int) (va_cons (ve_int) (va_nil)))) (va_cons (ve_tup (va_cons (ve_int) (va_cons (ve_int) (va_nil)))) (va_cons (ve_tup (va_cons (ve_int) (va_cons (ve_int) (va_nil)))) (va_cons (ve_tup (va_cons (ve_int) (va_cons (ve_int) (va_nil)))) (va_cons (ve_tup (va_cons (ve_int) (va_cons (ve_int) (va_nil)))) (va_nil))))))))))) (vss_cons (vs_set (i := 3) sc__law_lines.nd rfl (by first | exact .inl rfl | exact .inr rfl) rfl (ve_callB' F__law_sizes hr (by decide) rfl (takes_of rfl rfl rfl rfl) (pv 0) (va_cons (ve_cmp (op_eq2 (hu64 hr)) (o_eq rfl) rfl (ve_op op_mod o_mod (ve_callTy call_intS o_int rfl T.f_int b_int (ve_var (pv 1))) (ve_int)) (ve_int)) (va_cons (ve_lst (vl_disp (va_cons (ve_tup (va_cons (ve_int) (va_cons (ve_int) (va_nil)))) (va_cons (ve_tup (va_cons (ve_int) (va_cons (ve_int) (va_nil)))) (va_cons (ve_tup (va_cons (ve_int) (va_cons (ve_int) (va_nil)))) (va_cons (ve_tup (va_cons (ve_int) (va_cons (ve_int) (va_nil)))) (va_cons (ve_tup (va_cons (ve_int) (va_cons (ve_int) (va_nil)))) (va_cons (ve_tup (va_cons (ve_int) (va_cons (ve_int) (va_nil)))) (va_cons (ve_tup (va_cons (ve_int) (va_cons (ve_int) (va_nil)))) (va_cons (ve_tup (va_cons (ve_int) (va_cons (ve_int) (va_nil)))) (va_nil))))))))))) (va_cons (ve_lst (vl_disp (va_cons (ve_tup (va_cons (ve_int) (va_cons (ve_int) (va_nil)))) (va_cons (ve_tup (va_cons (ve_int) (va_cons (ve_int) (va_nil)))) (va_cons (ve_tup (va_cons (ve_int) (va_cons (ve_int) (va_nil)))) (va_cons (ve_tup (va_cons (ve_int) (va_cons (ve_int) (va_nil)))) (va_cons (ve_tup (va_cons (ve_int) (va_cons (ve_int) (va_nil)))) (va_cons (ve_tup (va_cons (ve_int) (va_cons (ve_int) (va_nil)))) (va_nil))))))))) (va_nil)))))) (vss_cons (vs_set (i := 4) sc__law_lines.nd rfl (by first | exact .inl rfl | exact .inr rfl) rfl (ve_callB' F__law_sizes hr (by decide) rfl (takes_of rfl rfl rfl rfl) (pv 0) (va_cons (ve_cmp (op_eq2 (hu64 hr)) (o_eq rfl) rfl (ve_op op_mod o_mod (ve_callTy call_intS o_int rfl T.f_int b_int (ve_op op_fdiv o_fdiv (ve_var (pv 1)) (ve_int))) (ve_int)) (ve_int)) (va_cons (ve_lst (vl_disp (va_cons (ve_tup (va_cons (ve_int) (va_cons (ve_int) (va_nil)))) (va_cons (ve_tup (va_cons (ve_int) (va_cons (ve_int) (va_nil)))) (va_cons (ve_tup (va_cons (ve_int) (va_cons (ve_int) (va_nil)))) (va_cons (ve_tup (va_cons (ve_int) (va_cons (ve_int) (va_nil)))) (va_cons (ve_tup (va_cons (ve_int) (va_cons (ve_int) (va_nil)))) (va_cons (ve_tup (va_cons (ve_int) (va_cons (ve_int) (va_nil)))) (va_cons (ve_tup (va_cons (ve_int) (va_cons (ve_int) (va_nil)))) (va_cons (ve_tup (va_cons (ve_int) (va_cons (ve_int) (va_nil)))) (va_cons (ve_tup (va_cons (ve_int) (va_cons (ve_int) (va_nil)))) (va_cons (ve_tup (va_cons (ve_int) (va_cons (ve_int) (va_nil)))) (va_nil))))))))))))) (va_cons (ve_var (pv 2)) (va_nil)))))) (vss_cons (vs_set (i := 5) sc__law_lines.nd rfl (by first | exact .inl rfl | exact .inr rfl) rfl (ve_callB' F__law_sizes hr (by decide) rfl (takes_of rfl rfl rfl rfl) (pv 0) (va_cons (ve_cmp (op_eq2 (hu64 hr)) (o_eq rfl) rfl (ve_op op_mod o_mod (ve_callTy call_intS o_int rfl T.f_int b_int (ve_op op_fdiv o_fdiv (ve_var (pv 1)) (ve_int))) (ve_int)) (ve_int)) (va_cons (ve_lst (vl_disp (va_cons (ve_tup (va_cons (ve_int) (va_cons (ve_int) (va_nil)))) (va_cons (ve_tup (va_cons (ve_int) (va_cons (ve_int) (va_nil)))) (va_cons (ve_tup (va_cons (ve_int) (va_cons (ve_int) (va_nil)))) (va_cons (ve_tup (va_cons (ve_int) (va_cons (ve_int) (va_nil)))) (va_cons (ve_tup (va_cons (ve_int) (va_cons (ve_int) (va_nil)))) (va_cons (ve_tup (va_cons (ve_int) (va_cons (ve_int) (va_nil)))) (va_cons (ve_tup (va_cons (ve_int) (va_cons (ve_int) (va_nil)))) (va_cons (ve_tup (va_cons (ve_int) (va_cons (ve_int) (va_nil)))) (va_cons (ve_tup (va_cons (ve_int) (va_cons (ve_int) (va_nil)))) (va_cons (ve_tup (va_cons (ve_int) (va_cons (ve_int) (va_nil)))) (va_nil))))))))))))) (va_cons (ve_var (pv 2)) (va_nil)))))) (vss_one (vs_ret (ve_lst (vl_lc rfl sc__law_lines.nd (vi_rng rfl T.f_range (ve_int)) (blkOk_by (own := [("k", 6)]) (by kernel_rfl)) (fun _ _ _ _ _ => pg_name (i := 6) sc__law_lines.nd rfl (by first | exact .inl rfl | exact .inr rfl)) (tg_name 6) (fun _ _ _ _ _ => vts_nil) (fun _ _ _ _ _ => ve_callB' F__law_any_line hr (by decide) rfl (takes_W0) (pv 0) (va_cons (ve_ix (ix_4 (hu1 hr)) (o_ix rfl) (ve_var (pv 3)) (ve_var (pv 6))) (va_cons (ve_ix (ix_4 (hu1 hr)) (o_ix rfl) (ve_var (pv 4)) (ve_var (pv 6))) (va_cons (ve_ix (ix_4 (hu1 hr)) (o_ix rfl) (ve_var (pv 5)) (ve_var (pv 6))) (va_nil)))))))))))))), Fn⟩
theorem fv__law_lines (T : Txt K w mg) (F__law_take : Fv P w K mg base (cc K B) 1 "_law_take" 2 mTake) (F__law_sizes : Fv P w K mg base (cc K B) 2 "_law_sizes" 4 m__law_sizes) (F__law_any_line : Fv P w K mg base (cc K B) 2 "_law_any_line" 4 m__law_any_line) : Fv P w K mg base (cc K B) 3 "_law_lines" 1 m__law_lines := by
  obtain ⟨f, fd, hm, ok, Fn⟩ := fo__law_lines (P := P) (base := base) (B := B) T F__law_take F__law_sizes F__law_any_line
  exact ⟨f, fd, ["box"], rfl, hm, ok, Fn.kp, Fn.binds fun _ _ _ _ _ _ us hl => match us, hl with | [_], _ => rfl⟩
theorem sc__law_due : FnScope ["first", "second", "one", "other", "most", "ways", "u", "v", "row", "cell", "mark", "to", "y", "ahead"] ["first", "second"] (defScope s__law_due) := ⟨rfl, rfl, rfl, by decide +kernel, rfl, by decide +kernel, by decide +kernel⟩
def b__law_due : GS := sSeq (sFor (gT [2, 3, 4]) (iSeq (eLst (lDisp (aCons (eTup (aCons (eOp2 pIx (eVar 0) (eC (.int 1))) (aCons (eOp2 pIx (eVar 1) (eC (.int 1))) (aCons (eC (.int 6)) (aNil))))) (aCons (eTup (aCons (eOp2 pIx (eVar 0) (eC (.int 0))) (aCons (eOp2 pIx (eVar 1) (eC (.int 0))) (aCons (eC (.int 8)) (aNil))))) (aCons (eTup (aCons (eOp1 pLen (eOp2 pIx (eVar 0) (eC (.int 2)))) (aCons (eOp1 pLen (eOp2 pIx (eVar 1) (eC (.int 2)))) (aCons (eC (.int 8)) (aNil))))) (aNil))))))) (sIf (gBl (eOp2 pGt (eOp2 pMul (eVar 2) (eVar 3)) (eVar 4))) (sRet (eLst (lDisp (aCons (eC (.str "many")) (aCons (eOp2 pMul (eVar 2) (eVar 3)) (aNil)))))) (sNil))) (sSeq (sOwn 5 (lDisp (aNil))) (sSeq (sFor (gN 6) (iRng (eOp1 pLen (eOp2 pIx (eVar 0) (eC (.int 2))))) (sFor (gN 7) (iRng (eOp1 pLen (eOp2 pIx (eVar 1) (eC (.int 2))))) (sSeq (sOwn 8 (lDisp (aNil))) (sSeq (sFor (gN 2) (iSeq (eOp2 pIx (eOp2 pIx (eVar 0) (eC (.int 2))) (eVar 6))) (sFor (gN 3) (iSeq (eOp2 pIx (eOp2 pIx (eVar 1) (eC (.int 2))) (eVar 7))) (sSeq (sOwn 9 (lDisp (aNil))) (sSeq (sFor (gT [10, 11]) (iSeq (eVar 2)) (sExtO 9 (eLst (lLc [12, 13] (iSeq (eVar 3)) (gT [12, 13]) (gYes) (eTup (aCons (eOp2 pAdd (eOp2 pMul (eVar 10) (eOp2 pIx (eVar 1) (eC (.int 0)))) (eVar 12)) (aCons (eOp2 pAdd (eOp2 pMul (eVar 11) (eOp1 pLen (eOp2 pIx (eVar 1) (eC (.int 2))))) (eVar 13)) (aNil)))))))) (sPub 9 (sAppO 8 (eOp1 pTuple (eVar 9)))))))) (sPub 8 (sAppO 5 (eOp1 pTuple (eVar 8)))))))) (sPub 5 (sRet (eLst (lDisp (aCons (eC (.str "told")) (aCons (eLst (lDisp (aCons (eOp2 pMul (eOp2 pIx (eVar 0) (eC (.int 0))) (eOp2 pIx (eVar 1) (eC (.int 0)))) (aCons (eOp2 pMul (eOp2 pIx (eVar 0) (eC (.int 1))) (eOp2 pIx (eVar 1) (eC (.int 1)))) (aCons (eOp1 pTuple (eVar 5)) (aNil)))))) (aNil)))))))))
def m__law_due : GF := fnV 14 noPin b__law_due
theorem fo__law_due (T : Txt K w mg)  : ∃ f fd, mg "_law_due" = some (.ref f) ∧ FnOk P w K mg base (L2.CX P w) 1 f fd ["first", "second"] (SpV (cc K B) 2 m__law_due) ∧ Fun K "_law_due" "_law_due" s__law_due f fd := by
  obtain ⟨f, fd, hm, Fn⟩ := T.d__law_due
  exact ⟨f, fd, hm, fn_ok (c := cc K B) (N := ["first", "second", "one", "other", "most", "ways", "u", "v", "row", "cell", "mark", "to", "y", "ahead"]) (pn := noPin) rfl Fn sc__law_due rfl (by decide) (fun cdv A outer s H E hr => vss_cons (vs_for (passes_of rfl) rfl (vi_seq rfl (ve_lst (vl_disp (va_cons (ve_tup (va_cons (ve_ix (ix_4 (hu1 hr)) (o_ix rfl) (ve_var (pv 0)) (ve_int)) (va_cons (ve_ix (ix_4 (hu1 hr)) (o_ix rfl) (ve_var (pv 1)) (ve_int)) (va_cons (ve_int) (va_nil))))) (va_cons (ve_tup (va_cons (ve_ix (ix_4 (hu1 hr)) (o_ix rfl) (ve_var (pv 0)) (ve_int)) (va_cons (ve_ix (ix_4 (hu1 hr)) (o_ix rfl) (ve_var (pv 1)) (ve_int)) (va_cons (ve_int) (va_nil))))) (va_cons (ve_tup (va_cons (ve_callB call_len2 (o_len rfl) rfl T.f_len b_len (ve_ix (ix_4 (hu1 hr)) (o_ix rfl) (ve_var (pv 0)) (ve_int))) (va_cons (ve_callB call_len2 (o_len rfl) rfl T.f_len b_len (ve_ix (ix_4 (hu1 hr)) (o_ix rfl) (ve_var (pv 1)) (ve_int))) (va_cons (ve_int) (va_nil))))) (va_nil))))))) (pg_tup rfl (pgs_cons (pg_name (i := 2) sc__law_due.nd rfl (by first | exact .inl rfl | exact .inr rfl)) (pgs_cons (pg_name (i := 3) sc__law_due.nd rfl (by first | exact .inl rfl | exact .inr rfl)) (pgs_cons (pg_name (i := 4) sc__law_due.nd rfl (by first | exact .inl rfl | exact .inr rfl)) (pgs_nil))))) (tg_tup rfl (.cons (.cons (.cons (.nil))))) (by decide) (vss_one (vs_if (vt_cmp op_gt o_gt rfl (ve_op op_mul2 o_mul (ve_var (pv 2)) (ve_var (pv 3))) (ve_var (pv 4))) (vss_one (vs_ret (ve_lst (vl_disp (va_cons (ve_str) (va_cons (ve_op op_mul2 o_mul (ve_var (pv 2)) (ve_var (pv 3))) (va_nil))))))) (vss_nil)))) (vss_cons (vs_own (i := 5) sc__law_due.nd rfl (by first | exact .inl rfl | exact .inr rfl) rfl (vl_disp (va_nil))) (vss_cons (vs_for (passes_of rfl) rfl (vi_rng rfl T.f_range (ve_callB call_len2 (o_len rfl) rfl T.f_len b_len (ve_ix (ix_4 (hu1 hr)) (o_ix rfl) (ve_var (pv 0)) (ve_int)))) (pg_name (i := 6) sc__law_due.nd rfl (by first | exact .inl rfl | exact .inr rfl)) (tg_name 6) (by decide) (vss_one (vs_for (passes_of rfl) rfl (vi_rng rfl T.f_range (ve_callB call_len2 (o_len rfl) rfl T.f_len b_len (ve_ix (ix_4 (hu1 hr)) (o_ix rfl) (ve_var (pv 1)) (ve_int)))) (pg_name (i := 7) sc__law_due.nd rfl (by first | exact .inl rfl | exact .inr rfl)) (tg_name 7) (by decide) (vss_cons (vs_own (i := 8) sc__law_due.nd rfl (by first | exact .inl rfl | exact .inr rfl) rfl (vl_disp (va_nil))) (vss_cons (vs_for (passes_of rfl) rfl (vi_seq rfl (ve_ix (ix_4 (hu1 hr)) (o_ix rfl) (ve_ix (ix_4 (hu1 hr)) (o_ix rfl) (ve_var (pv 0)) (ve_int)) (ve_var (pv 6)))) (pg_name (i := 2) sc__law_due.nd rfl (by first | exact .inl rfl | exact .inr rfl)) (tg_name 2) (by decide) (vss_one (vs_for (passes_of rfl) rfl (vi_seq rfl (ve_ix (ix_4 (hu1 hr)) (o_ix rfl) (ve_ix (ix_4 (hu1 hr)) (o_ix rfl) (ve_var (pv 1)) (ve_int)) (ve_var (pv 7)))) (pg_name (i := 3) sc__law_due.nd rfl (by first | exact .inl rfl | exact .inr rfl)) (tg_name 3) (by decide) (vss_cons (vs_own (i := 9) sc__law_due.nd rfl (by first | exact .inl rfl | exact .inr rfl) rfl (vl_disp (va_nil))) (vss_cons (vs_for (passes_of rfl) rfl (vi_seq rfl (ve_var (pv 2))) (pg_tup rfl (pgs_cons (pg_name (i := 10) sc__law_due.nd rfl (by first | exact .inl rfl | exact .inr rfl)) (pgs_cons (pg_name (i := 11) sc__law_due.nd rfl (by first | exact .inl rfl | exact .inr rfl)) (pgs_nil)))) (tg_tup rfl (.cons (.cons (.nil)))) (by decide) (vss_one (vs_extO (pv 9) (ve_lst (vl_lc rfl sc__law_due.nd (vi_seq rfl (ve_var (pv 3))) (blkOk_by (own := [("y", 12), ("ahead", 13)]) (by kernel_rfl)) (fun _ _ _ _ _ => pg_tup rfl (pgs_cons (pg_name (i := 12) sc__law_due.nd rfl (by first | exact .inl rfl | exact .inr rfl)) (pgs_cons (pg_name (i := 13) sc__law_due.nd rfl (by first | exact .inl rfl | exact .inr rfl)) (pgs_nil)))) (tg_tup rfl (.cons (.cons (.nil)))) (fun _ _ _ _ _ => vts_nil) (fun _ _ _ _ _ => ve_tup (va_cons (ve_op op_add4 (o_add rfl) (ve_op op_mul2 o_mul (ve_var (pv 10)) (ve_ix (ix_4 (hu1 hr)) (o_ix rfl) (ve_var (pv 1)) (ve_int))) (ve_var (pv 12))) (va_cons (ve_op op_add4 (o_add rfl) (ve_op op_mul2 o_mul (ve_var (pv 11)) (ve_callB call_len2 (o_len rfl) rfl T.f_len b_len (ve_ix (ix_4 (hu1 hr)) (o_ix rfl) (ve_var (pv 1)) (ve_int)))) (ve_var (pv 13))) (va_nil))))))))) (vss_pub (i := 9) (vss_one (vs_appO (pv 8) (ve_callTy call_tuple2 (o_tuple rfl) rfl T.f_tuple b_tuple (ve_var (pv 9))))))))))) (vss_pub (i := 8) (vss_one (vs_appO (pv 5) (ve_callTy call_tuple2 (o_tuple rfl) rfl T.f_tuple b_tuple (ve_var (pv 8))))))))))) (vss_pub (i := 5) (vss_one (vs_ret (ve_lst (vl_disp (va_cons (ve_str) (va_cons (ve_lst (vl_disp (va_cons (ve_op op_mul2 o_mul (ve_ix (ix_4 (hu1 hr)) (o_ix rfl) (ve_var (pv 0)) (ve_int)) (ve_ix (ix_4 (hu1 hr)) (o_ix rfl) (ve_var (pv 1)) (ve_int))) (va_cons (ve_op op_mul2 o_mul (ve_ix (ix_4 (hu1 hr)) (o_ix rfl) (ve_var (pv 0)) (ve_int)) (ve_ix (ix_4 (hu1 hr)) (o_ix rfl) (ve_var (pv 1)) (ve_int))) (va_cons (ve_callTy call_tuple2 (o_tuple rfl) rfl T.f_tuple b_tuple (ve_var (pv 5))) (va_nil)))))) (va_nil))))))))))), Fn⟩
theorem fv__law_due (T : Txt K w mg)  : Fv P w K mg base (cc K B) 1 "_law_due" 2 m__law_due := by
  obtain ⟨f, fd, hm, ok, Fn⟩ := fo__law_due (P := P) (base := base) (B := B) T 
  exact ⟨f, fd, ["first", "second"], rfl, hm, ok, Fn.kp, Fn.binds fun _ _ _ _ _ _ us hl => match us, hl with | [_, _], _ => rfl⟩
theorem sc__law_asked : FnScope ["first", "second", "named", "error"] ["first", "second", "named"] (defScope s__law_asked) := ⟨rfl, rfl, rfl, by decide +kernel, rfl, by decide +kernel, by decide +kernel⟩
def b__law_asked : GS := sTry exT [⟨4, some 3, .many [.c (.str "many"), .f "count"]⟩, ⟨0, none, .many [.c (.str "another error")]⟩] (sRet (eLst (lDisp (aCons (eC (.str "told")) (aCons (eIf (gVal (eVar 2)) (eCallK m_lines_beside [1, 0] (aCons (eVar 1) (aCons (eVar 0) (aNil)))) (eCall m_lines_beside (aCons (eVar 0) (aCons (eVar 1) (aNil))))) (aNil))))))
def m__law_asked : GF := fnV 4 noPin b__law_asked
theorem fo__law_asked (T : Txt K w mg) (F_lines_beside : Fv P w K mg base (cc K B) 7 "lines_beside" 2 m_lines_beside) (K_lines_beside_second_first : FvK P w K mg base (cc K B) 7 "lines_beside" 2 m_lines_beside ["second", "first"] [1, 0]) : ∃ f fd, mg "_law_asked" = some (.ref f) ∧ FnOk P w K mg base (L2.CX P w) 8 f fd ["first", "second", "named"] (SpV (cc K B) 3 m__law_asked) ∧ Fun K "_law_asked" "_law_asked" s__law_asked f fd := by
  obtain ⟨f, fd, hm, Fn⟩ := T.d__law_asked
  exact ⟨f, fd, hm, fn_ok (c := cc K B) (N := ["first", "second", "named", "error"]) (pn := noPin) rfl Fn sc__law_asked rfl (by decide) (fun cdv A outer s H E hr => vss_one (vs_try rfl rfl rfl sc__law_asked.nd (takes_of rfl rfl rfl rfl) T.exm (fun W pl xe tk ps => vss_one (vs_ret (ve_lst (vl_disp (va_cons (ve_str) (va_cons (ve_if (vt_val rfl (ve_var (pv 2))) (ve_callK K_lines_beside_second_first hr (by decide) rfl rfl (tk) (vk_cons (ve_var (pv 1)) (vk_cons (ve_var (pv 0)) (vk_nil)))) (ve_call F_lines_beside hr (by decide) rfl (tk) (va_cons (ve_var (pv 0)) (va_cons (ve_var (pv 1)) (va_nil))))) (va_nil))))))) (.named (i := 3) ⟨rfl, by decide, .inl T.g_TooMany⟩ rfl rfl (suite_many (i := 3) (fun a oe cls d pl hz hf => .cons (pe_str) (.cons (pe_xf T.x_TooMany.xf T.x_TooMany.no hz hf (pv 3)) (.nil) rfl) rfl)) (.bare ⟨rfl, by decide, .inl T.g_WireError⟩ (suite_many (i := 0) (fun a oe cls d pl hz hf => .cons (pe_str) (.nil) rfl)) (.nil))) (hdsOk_ok (by rfl)))), Fn⟩
theorem fv__law_asked (T : Txt K w mg) (F_lines_beside : Fv P w K mg base (cc K B) 7 "lines_beside" 2 m_lines_beside) (K_lines_beside_second_first : FvK P w K mg base (cc K B) 7 "lines_beside" 2 m_lines_beside ["second", "first"] [1, 0]) : Fv P w K mg base (cc K B) 8 "_law_asked" 3 m__law_asked := by
  obtain ⟨f, fd, hm, ok, Fn⟩ := fo__law_asked (P := P) (base := base) (B := B) T F_lines_beside K_lines_beside_second_first
  exact ⟨f, fd, ["first", "second", "named"], rfl, hm, ok, Fn.kp, Fn.binds fun _ _ _ _ _ _ us hl => match us, hl with | [_, _, _], _ => rfl⟩
theorem sc__law_after : FnScope ["line", "at", "sign", "mark", "some", "y", "to"] ["line", "at", "sign", "mark"] (defScope s__law_after) := ⟨rfl, rfl, rfl, by decide +kernel, rfl, by decide +kernel, by decide +kernel⟩
def b__law_after : GS := sSeq (sSet 4 (eLst (lLc [5, 6] (iSeq (eOp2 pIx (eOp2 pIx (eOp2 pIx (eVar 0) (eC (.int 2))) (eVar 1)) (eVar 2))) (gT [5, 6]) (gBl (eOp2 pEq (eVar 5) (eVar 3))) (eVar 6)))) (sRet (eIf (gBl (eOp2 pNe (eVar 4) (eLst (lDisp (aNil))))) (eOp2 pIx (eVar 4) (eC (.int 0))) (eC .non)))
def m__law_after : GF := fnV 7 noPin b__law_after
theorem fo__law_after (T : Txt K w mg)  : ∃ f fd, mg "_law_after" = some (.ref f) ∧ FnOk P w K mg base (L2.CX P w) 1 f fd ["line", "at", "sign", "mark"] (SpV (cc K B) 4 m__law_after) ∧ Fun K "_law_after" "_law_after" s__law_after f fd := by
  obtain ⟨f, fd, hm, Fn⟩ := T.d__law_after
  exact ⟨f, fd, hm, fn_ok (c := cc K B) (N := ["line", "at", "sign", "mark", "some", "y", "to"]) (pn := noPin) rfl Fn sc__law_after rfl (by decide) (fun cdv A outer s H E hr => vss_cons (vs_setLc (i := 4) rfl sc__law_after.nd rfl rfl rfl (sw_true rfl rfl rfl (by decide +kernel)) (vi_seq rfl (ve_ix (ix_4 (hu1 hr)) (o_ix rfl) (ve_ix (ix_4 (hu1 hr)) (o_ix rfl) (ve_ix (ix_4 (hu1 hr)) (o_ix rfl) (ve_var (pv 0)) (ve_int)) (ve_var (pv 1))) (ve_var (pv 2)))) (blkOk_by (own := [("y", 5), ("to", 6)]) (by kernel_rfl)) (fun _ _ _ _ _ => pg_tup rfl (pgs_cons (pg_name (i := 5) sc__law_after.nd rfl (by first | exact .inl rfl | exact .inr rfl)) (pgs_cons (pg_name (i := 6) sc__law_after.nd rfl (by first | exact .inl rfl | exact .inr rfl)) (pgs_nil)))) (tg_tup rfl (.cons (.cons (.nil)))) (fun _ _ _ _ _ => vts_one (vt_cmp (op_eq2 (hu64 hr)) (o_eq rfl) rfl (ve_var (pv 5)) (ve_var (pv 3)))) (fun _ _ _ _ _ => ve_var (pv 6))) (vss_one (vs_ret (ve_if (vt_cmp (op_ne2 (hu64 hr)) (o_ne rfl) rfl (ve_var (pv 4)) (ve_lst (vl_disp (va_nil)))) (ve_ix (ix_4 (hu1 hr)) (o_ix rfl) (ve_var (pv 4)) (ve_int)) (ve_non))))), Fn⟩
theorem fv__law_after (T : Txt K w mg)  : Fv P w K mg base (cc K B) 1 "_law_after" 4 m__law_after := by
  obtain ⟨f, fd, hm, ok, Fn⟩ := fo__law_after (P := P) (base := base) (B := B) T 
  exact ⟨f, fd, ["line", "at", "sign", "mark"], rfl, hm, ok, Fn.kp, Fn.binds fun _ _ _ _ _ _ us hl => match us, hl with | [_, _, _, _], _ => rfl⟩
theorem sc__law_walked : FnScope ["first", "second", "heard", "u", "v", "one", "other", "mark", "y"] ["first", "second", "heard"] (defScope s__law_walked) := ⟨rfl, rfl, rfl, by decide +kernel, rfl, by decide +kernel, by decide +kernel⟩
def b__law_walked : GS := sSeq (sTgt (gT [3, 4]) (eTup (aCons (eC (.int 0)) (aCons (eC (.int 0)) (aNil))))) (sSeq (sFor (gT [5, 6, 7, 8]) (iSeq (eVar 2)) (sSeq (sPar 3 4 (eCall m__law_after (aCons (eVar 0) (aCons (eVar 3) (aCons (eVar 5) (aCons (eVar 7) (aNil)))))) (eCall m__law_after (aCons (eVar 1) (aCons (eVar 4) (aCons (eVar 6) (aCons (eVar 8) (aNil))))))) (sIf (gOr (gBl (eOp2 pIs (eVar 3) (eC .non))) (gBl (eOp2 pIs (eVar 4) (eC .non)))) (sRet (eC .non)) (sNil)))) (sRet (eTup (aCons (eVar 3) (aCons (eVar 4) (aNil))))))
def m__law_walked : GF := fnV 9 noPin b__law_walked
theorem fo__law_walked (T : Txt K w mg) (F__law_after : Fv P w K mg base (cc K B) 1 "_law_after" 4 m__law_after) : ∃ f fd, mg "_law_walked" = some (.ref f) ∧ FnOk P w K mg base (L2.CX P w) 2 f fd ["first", "second", "heard"] (SpV (cc K B) 3 m__law_walked) ∧ Fun K "_law_walked" "_law_walked" s__law_walked f fd := by
  obtain ⟨f, fd, hm, Fn⟩ := T.d__law_walked
  exact ⟨f, fd, hm, fn_ok (c := cc K B) (N := ["first", "second", "heard", "u", "v", "one", "other", "mark", "y"]) (pn := noPin) rfl Fn sc__law_walked rfl (by decide) (fun cdv A outer s H E hr => vss_cons (vs_tgt (ve_tup (va_cons (ve_int) (va_cons (ve_int) (va_nil)))) (pg_tup rfl (pgs_cons (pg_name (i := 3) sc__law_walked.nd rfl (by first | exact .inl rfl | exact .inr rfl)) (pgs_cons (pg_name (i := 4) sc__law_walked.nd rfl (by first | exact .inl rfl | exact .inr rfl)) (pgs_nil)))) (tg_tup rfl (.cons (.cons (.nil)))) (by decide)) (vss_cons (vs_for (passes_of rfl) rfl (vi_seq rfl (ve_var (pv 2))) (pg_tup rfl (pgs_cons (pg_name (i := 5) sc__law_walked.nd rfl (by first | exact .inl rfl | exact .inr rfl)) (pgs_cons (pg_name (i := 6) sc__law_walked.nd rfl (by first | exact .inl rfl | exact .inr rfl)) (pgs_cons (pg_name (i := 7) sc__law_walked.nd rfl (by first | exact .inl rfl | exact .inr rfl)) (pgs_cons (pg_name (i := 8) sc__law_walked.nd rfl (by first | exact .inl rfl | exact .inr rfl)) (pgs_nil)))))) (tg_tup rfl (.cons (.cons (.cons (.cons (.nil)))))) (by decide) (vss_cons (vs_par (i := 3) (j := 4) rfl sc__law_walked.nd rfl rfl (by decide) rfl rfl rfl rfl (ve_call F__law_after hr (by decide) rfl (takes_of rfl rfl rfl rfl) (va_cons (ve_var (pv 0)) (va_cons (ve_var (pv 3)) (va_cons (ve_var (pv 5)) (va_cons (ve_var (pv 7)) (va_nil)))))) (ve_call F__law_after hr (by decide) rfl (takes_of rfl rfl rfl rfl) (va_cons (ve_var (pv 1)) (va_cons (ve_var (pv 4)) (va_cons (ve_var (pv 6)) (va_cons (ve_var (pv 8)) (va_nil)))))) rfl) (vss_one (vs_if (vt_pw (vw_or (vt_cmp op_is2 o_is rfl (ve_var (pv 3)) (ve_non)) (vw_or1 (vt_cmp op_is2 o_is rfl (ve_var (pv 4)) (ve_non))))) (vss_one (vs_ret (ve_non))) (vss_nil))))) (vss_one (vs_ret (ve_tup (va_cons (ve_var (pv 3)) (va_cons (ve_var (pv 4)) (va_nil)))))))), Fn⟩
theorem fv__law_walked (T : Txt K w mg) (F__law_after : Fv P w K mg base (cc K B) 1 "_law_after" 4 m__law_after) : Fv P w K mg base (cc K B) 2 "_law_walked" 3 m__law_walked := by
  obtain ⟨f, fd, hm, ok, Fn⟩ := fo__law_walked (P := P) (base := base) (B := B) T F__law_after
  exact ⟨f, fd, ["first", "second", "heard"], rfl, hm, ok, Fn.kp, Fn.binds fun _ _ _ _ _ _ us hl => match us, hl with | [_, _, _], _ => rfl⟩
theorem sc__law_heard : FnScope ["box", "first", "second", "ticks", "found", "u", "v", "tick", "one", "other", "mark", "to", "y", "ahead"] ["box", "first", "second", "ticks"] (defScope s__law_heard) := ⟨rfl, rfl, rfl, by decide +kernel, rfl, by decide +kernel, by decide +kernel⟩
def b__law_heard : GS := sSeq (sPar3L 4 5 6 (lDisp (aNil)) (eC (.int 0)) (eC (.int 0))) (sSeq (sFor (gN 7) (iRng (eVar 3)) (sSeq (sPar 8 9 (eCallB mTake 0 (aCons (eOp2 pIx (eVar 1) (eC (.int 1))) (aNil))) (eCallB mTake 0 (aCons (eOp2 pIx (eVar 2) (eC (.int 1))) (aNil)))) (sSeq (sTgt (gT [10, 11]) (eOp2 pIx (eOp2 pIx (eOp2 pIx (eOp2 pIx (eVar 1) (eC (.int 2))) (eVar 5)) (eVar 8)) (eCallB mTake 0 (aCons (eOp1 pLen (eOp2 pIx (eOp2 pIx (eOp2 pIx (eVar 1) (eC (.int 2))) (eVar 5)) (eVar 8))) (aNil))))) (sSeq (sTgt (gT [12, 13]) (eOp2 pIx (eOp2 pIx (eOp2 pIx (eOp2 pIx (eVar 2) (eC (.int 2))) (eVar 6)) (eVar 9)) (eCallB mTake 0 (aCons (eOp1 pLen (eOp2 pIx (eOp2 pIx (eOp2 pIx (eVar 2) (eC (.int 2))) (eVar 6)) (eVar 9))) (aNil))))) (sSeq (sAppO 4 (eTup (aCons (eVar 8) (aCons (eVar 9) (aCons (eVar 10) (aCons (eVar 12) (aNil))))))) (sPar 5 6 (eVar 11) (eVar 13))))))) (sPub 4 (sRet (eVar 4))))
def m__law_heard : GF := fnV 14 pin0 b__law_heard
theorem fo__law_heard (T : Txt K w mg) (F__law_take : Fv P w K mg base (cc K B) 1 "_law_take" 2 mTake) : ∃ f fd, mg "_law_heard" = some (.ref f) ∧ FnOk P w K mg base (L2.CX P w) 2 f fd ["box", "first", "second", "ticks"] (SpV (cc K B) 4 m__law_heard) ∧ Fun K "_law_heard" "_law_heard" s__law_heard f fd := by
  obtain ⟨f, fd, hm, Fn⟩ := T.d__law_heard
  exact ⟨f, fd, hm, fn_ok (c := cc K B) (N := ["box", "first", "second", "ticks", "found", "u", "v", "tick", "one", "other", "mark", "to", "y", "ahead"]) (pn := pin0) rfl Fn sc__law_heard rfl (by decide) (fun cdv A outer s H E hr => vss_cons (vs_par3L (i := 4) (j := 5) (l := 6) rfl sc__law_heard.nd rfl rfl rfl (by decide) (by decide) (by decide) rfl rfl rfl rfl rfl rfl (vl_disp (va_nil)) (ve_int) (ve_int) rfl) (vss_cons (vs_for (passes_of rfl) rfl (vi_rng rfl T.f_range (ve_var (pv 3))) (pg_name (i := 7) sc__law_heard.nd rfl (by first | exact .inl rfl | exact .inr rfl)) (tg_name 7) (by decide) (vss_cons (vs_par (i := 8) (j := 9) rfl sc__law_heard.nd rfl rfl (by decide) rfl rfl rfl rfl (ve_callB' F__law_take hr (by decide) rfl (takes_of rfl rfl rfl rfl) (pv 0) (va_cons (ve_ix (ix_4 (hu1 hr)) (o_ix rfl) (ve_var (pv 1)) (ve_int)) (va_nil))) (ve_callB' F__law_take hr (by decide) rfl (takes_of rfl rfl rfl rfl) (pv 0) (va_cons (ve_ix (ix_4 (hu1 hr)) (o_ix rfl) (ve_var (pv 2)) (ve_int)) (va_nil))) rfl) (vss_cons (vs_tgt (ve_ix (ix_4 (hu1 hr)) (o_ix rfl) (ve_ix (ix_4 (hu1 hr)) (o_ix rfl) (ve_ix (ix_4 (hu1 hr)) (o_ix rfl) (ve_ix (ix_4 (hu1 hr)) (o_ix rfl) (ve_var (pv 1)) (ve_int)) (ve_var (pv 5))) (ve_var (pv 8))) (ve_callB' F__law_take hr (by decide) rfl (takes_of rfl rfl rfl rfl) (pv 0) (va_cons (ve_callB call_len2 (o_len rfl) rfl T.f_len b_len (ve_ix (ix_4 (hu1 hr)) (o_ix rfl) (ve_ix (ix_4 (hu1 hr)) (o_ix rfl) (ve_ix (ix_4 (hu1 hr)) (o_ix rfl) (ve_var (pv 1)) (ve_int)) (ve_var (pv 5))) (ve_var (pv 8)))) (va_nil)))) (pg_tup rfl (pgs_cons (pg_name (i := 10) sc__law_heard.nd rfl (by first | exact .inl rfl | exact .inr rfl)) (pgs_cons (pg_name (i := 11) sc__law_heard.nd rfl (by first | exact .inl rfl | exact .inr rfl)) (pgs_nil)))) (tg_tup rfl (.cons (.cons (.nil)))) (by decide)) (vss_cons (vs_tgt (ve_ix (ix_4 (hu1 hr)) (o_ix rfl) (ve_ix (ix_4 (hu1 hr)) (o_ix rfl) (ve_ix (ix_4 (hu1 hr)) (o_ix rfl) (ve_ix (ix_4 (hu1 hr)) (o_ix rfl) (ve_var (pv 2)) (ve_int)) (ve_var (pv 6))) (ve_var (pv 9))) (ve_callB' F__law_take hr (by decide) rfl (takes_of rfl rfl rfl rfl) (pv 0) (va_cons (ve_callB call_len2 (o_len rfl) rfl T.f_len b_len (ve_ix (ix_4 (hu1 hr)) (o_ix rfl) (ve_ix (ix_4 (hu1 hr)) (o_ix rfl) (ve_ix (ix_4 (hu1 hr)) (o_ix rfl) (ve_var (pv 2)) (ve_int)) (ve_var (pv 6))) (ve_var (pv 9)))) (va_nil)))) (pg_tup rfl (pgs_cons (pg_name (i := 12) sc__law_heard.nd rfl (by first | exact .inl rfl | exact .inr rfl)) (pgs_cons (pg_name (i := 13) sc__law_heard.nd rfl (by first | exact .inl rfl | exact .inr rfl)) (pgs_nil)))) (tg_tup rfl (.cons (.cons (.nil)))) (by decide)) (vss_cons (vs_appO (pv 4) (ve_tup (va_cons (ve_var (pv 8)) (va_cons (ve_var (pv 9)) (va_cons (ve_var (pv 10)) (va_cons (ve_var (pv 12)) (va_nil))))))) (vss_one (vs_par (i := 5) (j := 6) rfl sc__law_heard.nd rfl rfl (by decide) rfl rfl rfl rfl (ve_var (pv 11)) (ve_var (pv 13)) rfl))))))) (vss_pub (i := 4) (vss_one (vs_ret (ve_var (pv 4))))))), Fn⟩
theorem fv__law_heard (T : Txt K w mg) (F__law_take : Fv P w K mg base (cc K B) 1 "_law_take" 2 mTake) : Fv P w K mg base (cc K B) 2 "_law_heard" 4 m__law_heard := by
  obtain ⟨f, fd, hm, ok, Fn⟩ := fo__law_heard (P := P) (base := base) (B := B) T F__law_take
  exact ⟨f, fd, ["box", "first", "second", "ticks"], rfl, hm, ok, Fn.kp, Fn.binds fun _ _ _ _ _ _ us hl => match us, hl with | [_, _, _, _], _ => rfl⟩
theorem sc__law_bent : FnScope ["box", "first", "second", "heard", "at", "way", "bounds", "row"] ["box", "first", "second", "heard"] (defScope s__law_bent) := ⟨rfl, rfl, rfl, by decide +kernel, rfl, by decide +kernel, by decide +kernel⟩
def b__law_bent : GS := sSeq (sPar 4 5 (eCallB mTake 0 (aCons (eOp1 pLen (eVar 3)) (aNil))) (eCallB mTake 0 (aCons (eC (.int 4)) (aNil)))) (sSeq (sParEL 6 7 (eLst (lDisp (aCons (eOp2 pIx (eVar 1) (eC (.int 1))) (aCons (eOp2 pIx (eVar 2) (eC (.int 1))) (aCons (eOp2 pIx (eVar 1) (eC (.int 0))) (aCons (eOp2 pIx (eVar 2) (eC (.int 0))) (aNil))))))) (lOp1 lList (eOp2 pIx (eVar 3) (eVar 4)))) (sSeq (sPutO 7 (eVar 5) (eOp2 pMod (eOp1 pInt (eOp2 pAdd (eOp2 pAdd (eIxO 7 (eVar 5)) (eC (.int 1))) (eCallB mTake 0 (aCons (eC (.int 7)) (aNil))))) (eOp2 pIx (eVar 6) (eVar 5)))) (sPub 7 (sRet (eOp2 pAdd (eOp2 pAdd (eSl pSl (eVar 3) (oNone) (oSome (eVar 4))) (eLst (lDisp (aCons (eOp1 pTuple (eVar 7)) (aNil))))) (eSl pSl (eVar 3) (oSome (eOp2 pAdd (eVar 4) (eC (.int 1)))) (oNone)))))))
def m__law_bent : GF := fnV 8 pin0 b__law_bent
theorem fo__law_bent (T : Txt K w mg) (F__law_take : Fv P w K mg base (cc K B) 1 "_law_take" 2 mTake) : ∃ f fd, mg "_law_bent" = some (.ref f) ∧ FnOk P w K mg base (L2.CX P w) 2 f fd ["box", "first", "second", "heard"] (SpV (cc K B) 4 m__law_bent) ∧ Fun K "_law_bent" "_law_bent" s__law_bent f fd := by
  obtain ⟨f, fd, hm, Fn⟩ := T.d__law_bent
  exact ⟨f, fd, hm, fn_ok (c := cc K B) (N := ["box", "first", "second", "heard", "at", "way", "bounds", "row"]) (pn := pin0) rfl Fn sc__law_bent rfl (by decide) (fun cdv A outer s H E hr => vss_cons (vs_par (i := 4) (j := 5) rfl sc__law_bent.nd rfl rfl (by decide) rfl rfl rfl rfl (ve_callB' F__law_take hr (by decide) rfl (takes_of rfl rfl rfl rfl) (pv 0) (va_cons (ve_callB call_len2 (o_len rfl) rfl T.f_len b_len (ve_var (pv 3))) (va_nil))) (ve_callB' F__law_take hr (by decide) rfl (takes_of rfl rfl rfl rfl) (pv 0) (va_cons (ve_int) (va_nil))) rfl) (vss_cons (vs_parEL (i := 6) (j := 7) rfl sc__law_bent.nd rfl rfl (by decide) rfl rfl rfl rfl (ve_lst (vl_disp (va_cons (ve_ix (ix_4 (hu1 hr)) (o_ix rfl) (ve_var (pv 1)) (ve_int)) (va_cons (ve_ix (ix_4 (hu1 hr)) (o_ix rfl) (ve_var (pv 2)) (ve_int)) (va_cons (ve_ix (ix_4 (hu1 hr)) (o_ix rfl) (ve_var (pv 1)) (ve_int)) (va_cons (ve_ix (ix_4 (hu1 hr)) (o_ix rfl) (ve_var (pv 2)) (ve_int)) (va_nil))))))) (vl_callTy call_list2 (o_list rfl) rfl T.f_list b_list (ve_ix (ix_4 (hu1 hr)) (o_ix rfl) (ve_var (pv 3)) (ve_var (pv 4)))) rfl) (vss_cons (vs_putO (pv 7) (ve_var (pv 5)) (ve_op op_mod o_mod (ve_callTy call_intS o_int rfl T.f_int b_int (ve_op op_add4 (o_add rfl) (ve_op op_add4 (o_add rfl) (ve_ixO rfl (pv 7) (ve_var (pv 5))) (ve_int)) (ve_callB' F__law_take hr (by decide) rfl (takes_of rfl rfl rfl rfl) (pv 0) (va_cons (ve_int) (va_nil))))) (ve_ix (ix_4 (hu1 hr)) (o_ix rfl) (ve_var (pv 6)) (ve_var (pv 5))))) (vss_pub (i := 7) (vss_one (vs_ret (ve_op op_add4 (o_add rfl) (ve_op op_add4 (o_add rfl) (ve_slice sl_3 (o_sl rfl) (ve_var (pv 3)) (vo_none) (vo_some (ve_var (pv 4)))) (ve_lst (vl_disp (va_cons (ve_callTy call_tuple2 (o_tuple rfl) rfl T.f_tuple b_tuple (ve_var (pv 7))) (va_nil))))) (ve_slice sl_3 (o_sl rfl) (ve_var (pv 3)) (vo_some (ve_op op_add4 (o_add rfl) (ve_var (pv 4)) (ve_int))) (vo_none))))))))), Fn⟩
theorem fv__law_bent (T : Txt K w mg) (F__law_take : Fv P w K mg base (cc K B) 1 "_law_take" 2 mTake) : Fv P w K mg base (cc K B) 2 "_law_bent" 4 m__law_bent := by
  obtain ⟨f, fd, hm, ok, Fn⟩ := fo__law_bent (P := P) (base := base) (B := B) T F__law_take
  exact ⟨f, fd, ["box", "first", "second", "heard"], rfl, hm, ok, Fn.kp, Fn.binds fun _ _ _ _ _ _ us hl => match us, hl with | [_, _, _, _], _ => rfl⟩
theorem sc__law_behind : FnScope ["joined", "heard", "error"] ["joined", "heard"] (defScope s__law_behind) := ⟨rfl, rfl, rfl, by decide +kernel, rfl, by decide +kernel, by decide +kernel⟩
def b__law_behind : GS := sTry exT [⟨1, some 2, .many [.c (.str "heard"), .f "given"]⟩, ⟨0, none, .many [.c (.str "another error")]⟩] (sRet (eLst (lDisp (aCons (eC (.str "told")) (aCons (eCall m_line_behind (aCons (eVar 0) (aCons (eVar 1) (aNil)))) (aNil))))))
def m__law_behind : GF := fnV 3 noPin b__law_behind
theorem fo__law_behind (T : Txt K w mg) (F_line_behind : Fv P w K mg base (cc K B) 4 "line_behind" 2 m_line_behind) : ∃ f fd, mg "_law_behind" = some (.ref f) ∧ FnOk P w K mg base (L2.CX P w) 5 f fd ["joined", "heard"] (SpV (cc K B) 2 m__law_behind) ∧ Fun K "_law_behind" "_law_behind" s__law_behind f fd := by
  obtain ⟨f, fd, hm, Fn⟩ := T.d__law_behind
  exact ⟨f, fd, hm, fn_ok (c := cc K B) (N := ["joined", "heard", "error"]) (pn := noPin) rfl Fn sc__law_behind rfl (by decide) (fun cdv A outer s H E hr => vss_one (vs_try rfl rfl rfl sc__law_behind.nd (takes_of rfl rfl rfl rfl) T.exm (fun W pl xe tk ps => vss_one (vs_ret (ve_lst (vl_disp (va_cons (ve_str) (va_cons (ve_call F_line_behind hr (by decide) rfl (tk) (va_cons (ve_var (pv 0)) (va_cons (ve_var (pv 1)) (va_nil)))) (va_nil))))))) (.named (i := 2) ⟨rfl, by decide, .inl T.g_InvalidHeard⟩ rfl rfl (suite_many (i := 2) (fun a oe cls d pl hz hf => .cons (pe_str) (.cons (pe_xf T.x_InvalidHeard.xf T.x_InvalidHeard.no hz hf (pv 2)) (.nil) rfl) rfl)) (.bare ⟨rfl, by decide, .inl T.g_WireError⟩ (suite_many (i := 0) (fun a oe cls d pl hz hf => .cons (pe_str) (.nil) rfl)) (.nil))) (hdsOk_ok (by rfl)))), Fn⟩
theorem fv__law_behind (T : Txt K w mg) (F_line_behind : Fv P w K mg base (cc K B) 4 "line_behind" 2 m_line_behind) : Fv P w K mg base (cc K B) 5 "_law_behind" 2 m__law_behind := by
  obtain ⟨f, fd, hm, ok, Fn⟩ := fo__law_behind (P := P) (base := base) (B := B) T F_line_behind
  exact ⟨f, fd, ["joined", "heard"], rfl, hm, ok, Fn.kp, Fn.binds fun _ _ _ _ _ _ us hl => match us, hl with | [_, _], _ => rfl⟩
theorem sc__law_heard_right : FnScope ["box", "joined", "first", "second", "many", "heard", "rows", "ends", "pairs", "due", "one", "other", "mark", "y"] ["box", "joined", "first", "second"] (defScope s__law_heard_right) := ⟨rfl, rfl, rfl, by decide +kernel, rfl, by decide +kernel, by decide +kernel⟩
def b__law_heard_right : GS := sSeq (sSet 4 (eIf (gBl (eOp2 pEq (eCallB mTake 0 (aCons (eC (.int 8)) (aNil))) (eC (.int 0)))) (eC (.int 200)) (eOp2 pAdd (eC (.int 1)) (eCallB mTake 0 (aCons (eC (.int 12)) (aNil)))))) (sSeq (sSet 5 (eCallB m__law_heard 0 (aCons (eVar 2) (aCons (eVar 3) (aCons (eVar 4) (aNil)))))) (sSeq (sFor (gN 6) (iSeq (eLst (lDisp (aCons (eVar 5) (aCons (eCallB m__law_bent 0 (aCons (eVar 2) (aCons (eVar 3) (aCons (eVar 5) (aNil))))) (aCons (eSl pSl (eVar 5) (oNone) (oSome (eOp1 pNeg (eC (.int 1))))) (aNil))))))) (sSeq (sSet 7 (eCall m__law_walked (aCons (eVar 2) (aCons (eVar 3) (aCons (eVar 6) (aNil)))))) (sSeq (sSet 8 (eLst (lLc [10, 11, 12, 13] (iSeq (eVar 6)) (gT [10, 11, 12, 13]) (gYes) (eTup (aCons (eOp2 pAdd (eOp2 pMul (eVar 10) (eOp2 pIx (eVar 3) (eC (.int 1)))) (eVar 11)) (aCons (eOp2 pAdd (eOp2 pMul (eVar 12) (eOp2 pIx (eVar 3) (eC (.int 0)))) (eVar 13)) (aNil))))))) (sSeq (sIf (gNot (gVal (eCall r__law_same (aCons (eCall m_is_heard (aCons (eVar 1) (aCons (eLst (lOp1 lList (eVar 8))) (aNil)))) (aCons (eOp2 pIsNot (eVar 7) (eC .non)) (aNil)))))) (sRet (eC (.bl false))) (sNil)) (sSeq (sSet 9 (eIf (gBl (eOp2 pIs (eVar 7) (eC .non))) (eLst (lDisp (aCons (eC (.str "heard")) (aCons (eVar 8) (aNil))))) (eLst (lDisp (aCons (eC (.str "told")) (aCons (eOp2 pAdd (eOp2 pMul (eOp2 pIx (eVar 7) (eC (.int 0))) (eOp1 pLen (eOp2 pIx (eVar 3) (eC (.int 2))))) (eOp2 pIx (eVar 7) (eC (.int 1)))) (aNil))))))) (sIf (gNot (gVal (eCall r__law_same (aCons (eCall m__law_behind (aCons (eVar 1) (aCons (eLst (lOp1 lList (eVar 8))) (aNil)))) (aCons (eVar 9) (aNil)))))) (sRet (eC (.bl false))) (sNil))))))) (sRet (eC (.bl true)))))
def m__law_heard_right : GF := fnV 14 pin0 b__law_heard_right
theorem fo__law_heard_right (T : Txt K w mg) (F__law_take : Fv P w K mg base (cc K B) 1 "_law_take" 2 mTake) (F__law_heard : Fv P w K mg base (cc K B) 2 "_law_heard" 4 m__law_heard) (F__law_bent : Fv P w K mg base (cc K B) 2 "_law_bent" 4 m__law_bent) (F__law_walked : Fv P w K mg base (cc K B) 2 "_law_walked" 3 m__law_walked) (F__law_same : Fv P w K mg base (cc K B) 13 "_law_same" 2 r__law_same) (F_is_heard : Fv P w K mg base (cc K B) 4 "is_heard" 2 m_is_heard) (F__law_behind : Fv P w K mg base (cc K B) 5 "_law_behind" 2 m__law_behind) : ∃ f fd, mg "_law_heard_right" = some (.ref f) ∧ FnOk P w K mg base (L2.CX P w) 14 f fd ["box", "joined", "first", "second"] (SpV (cc K B) 4 m__law_heard_right) ∧ Fun K "_law_heard_right" "_law_heard_right" s__law_heard_right f fd := by
  obtain ⟨f, fd, hm, Fn⟩ := T.d__law_heard_right
  exact ⟨f, fd, hm, fn_ok (c := cc K B) (N := ["box", "joined", "first", "second", "many", "heard", "rows", "ends", "pairs", "due", "one", "other", "mark", "y"]) (pn := pin0) rfl Fn sc__law_heard_right rfl (by decide) (fun cdv A outer s H E hr => vss_cons (vs_set (i := 4) sc__law_heard_right.nd rfl (by first | exact .inl rfl | exact .inr rfl) rfl (ve_if (vt_cmp (op_eq2 (hu64 hr)) (o_eq rfl) rfl (ve_callB' F__law_take hr (by decide) rfl (takes_of rfl rfl rfl rfl) (pv 0) (va_cons (ve_int) (va_nil))) (ve_int)) (ve_int) (ve_op op_add4 (o_add rfl) (ve_int) (ve_callB' F__law_take hr (by decide) rfl (takes_of rfl rfl rfl rfl) (pv 0) (va_cons (ve_int) (va_nil)))))) (vss_cons (vs_set (i := 5) sc__law_heard_right.nd rfl (by first | exact .inl rfl | exact .inr rfl) rfl (ve_callB' F__law_heard hr (by decide) rfl (takes_of rfl rfl rfl rfl) (pv 0) (va_cons (ve_var (pv 2)) (va_cons (ve_var (pv 3)) (va_cons (ve_var (pv 4)) (va_nil)))))) (vss_cons (vs_for (passes_of rfl) rfl (vi_seq rfl (ve_lst (vl_disp (va_cons (ve_var (pv 5)) (va_cons (ve_callB' F__law_bent hr (by decide) rfl (takes_of rfl rfl rfl rfl) (pv 0) (va_cons (ve_var (pv 2)) (va_cons (ve_var (pv 3)) (va_cons (ve_var (pv 5)) (va_nil))))) (va_cons (ve_slice sl_3 (o_sl rfl) (ve_var (pv 5)) (vo_none) (vo_some (ve_un un_neg o_neg (ve_int)))) (va_nil))))))) (pg_name (i := 6) sc__law_heard_right.nd rfl (by first | exact .inl rfl | exact .inr rfl)) (tg_name 6) (by decide) (vss_cons (vs_set (i := 7) sc__law_heard_right.nd rfl (by first | exact .inl rfl | exact .inr rfl) rfl (ve_call F__law_walked hr (by decide) rfl (takes_of rfl rfl rfl rfl) (va_cons (ve_var (pv 2)) (va_cons (ve_var (pv 3)) (va_cons (ve_var (pv 6)) (va_nil)))))) (vss_cons (vs_setLc (i := 8) rfl sc__law_heard_right.nd rfl rfl rfl (sw_true rfl rfl rfl (by decide +kernel)) (vi_seq rfl (ve_var (pv 6))) (blkOk_by (own := [("one", 10), ("other", 11), ("mark", 12), ("y", 13)]) (by kernel_rfl)) (fun _ _ _ _ _ => pg_tup rfl (pgs_cons (pg_name (i := 10) sc__law_heard_right.nd rfl (by first | exact .inl rfl | exact .inr rfl)) (pgs_cons (pg_name (i := 11) sc__law_heard_right.nd rfl (by first | exact .inl rfl | exact .inr rfl)) (pgs_cons (pg_name (i := 12) sc__law_heard_right.nd rfl (by first | exact .inl rfl | exact .inr rfl)) (pgs_cons (pg_name (i := 13) sc__law_heard_right.nd rfl (by first | exact .inl rfl | exact .inr rfl)) (pgs_nil)))))) (tg_tup rfl (.cons (.cons (.cons (.cons (.nil)))))) (fun _ _ _ _ _ => vts_nil) (fun _ _ _ _ _ => ve_tup (va_cons (ve_op op_add4 (o_add rfl) (ve_op op_mul2 o_mul (ve_var (pv 10)) (ve_ix (ix_4 (hu1 hr)) (o_ix rfl) (ve_var (pv 3)) (ve_int))) (ve_var (pv 11))) (va_cons (ve_op op_add4 (o_add rfl) (ve_op op_mul2 o_mul (ve_var (pv 12)) (ve_ix (ix_4 (hu1 hr)) (o_ix rfl) (ve_var (pv 3)) (ve_int))) (ve_var (pv 13))) (va_nil))))) (vss_cons (vs_if (vt_not (vt_val rfl (ve_call F__law_same hr (by decide) rfl (takes_of rfl rfl rfl rfl) (va_cons (ve_call F_is_heard hr (by decide) rfl (takes_of rfl rfl rfl rfl) (va_cons (ve_var (pv 1)) (va_cons (ve_lst (vl_callTy call_list2 (o_list rfl) rfl T.f_list b_list (ve_var (pv 8)))) (va_nil)))) (va_cons (ve_cmp op_isNot2 o_isNot rfl (ve_var (pv 7)) (ve_non)) (va_nil)))))) (vss_one (vs_ret (ve_bl))) (vss_nil)) (vss_cons (vs_set (i := 9) sc__law_heard_right.nd rfl (by first | exact .inl rfl | exact .inr rfl) rfl (ve_if (vt_cmp op_is2 o_is rfl (ve_var (pv 7)) (ve_non)) (ve_lst (vl_disp (va_cons (ve_str) (va_cons (ve_var (pv 8)) (va_nil))))) (ve_lst (vl_disp (va_cons (ve_str) (va_cons (ve_op op_add4 (o_add rfl) (ve_op op_mul2 o_mul (ve_ix (ix_4 (hu1 hr)) (o_ix rfl) (ve_var (pv 7)) (ve_int)) (ve_callB call_len2 (o_len rfl) rfl T.f_len b_len (ve_ix (ix_4 (hu1 hr)) (o_ix rfl) (ve_var (pv 3)) (ve_int)))) (ve_ix (ix_4 (hu1 hr)) (o_ix rfl) (ve_var (pv 7)) (ve_int))) (va_nil))))))) (vss_one (vs_if (vt_not (vt_val rfl (ve_call F__law_same hr (by decide) rfl (takes_of rfl rfl rfl rfl) (va_cons (ve_call F__law_behind hr (by decide) rfl (takes_of rfl rfl rfl rfl) (va_cons (ve_var (pv 1)) (va_cons (ve_lst (vl_callTy call_list2 (o_list rfl) rfl T.f_list b_list (ve_var (pv 8)))) (va_nil)))) (va_cons (ve_var (pv 9)) (va_nil)))))) (vss_one (vs_ret (ve_bl))) (vss_nil)))))))) (vss_one (vs_ret (ve_bl)))))), Fn⟩
theorem fv__law_heard_right (T : Txt K w mg) (F__law_take : Fv P w K mg base (cc K B) 1 "_law_take" 2 mTake) (F__law_heard : Fv P w K mg base (cc K B) 2 "_law_heard" 4 m__law_heard) (F__law_bent : Fv P w K mg base (cc K B) 2 "_law_bent" 4 m__law_bent) (F__law_walked : Fv P w K mg base (cc K B) 2 "_law_walked" 3 m__law_walked) (F__law_same : Fv P w K mg base (cc K B) 13 "_law_same" 2 r__law_same) (F_is_heard : Fv P w K mg base (cc K B) 4 "is_heard" 2 m_is_heard) (F__law_behind : Fv P w K mg base (cc K B) 5 "_law_behind" 2 m__law_behind) : Fv P w K mg base (cc K B) 14 "_law_heard_right" 4 m__law_heard_right := by
  obtain ⟨f, fd, hm, ok, Fn⟩ := fo__law_heard_right (P := P) (base := base) (B := B) T F__law_take F__law_heard F__law_bent F__law_walked F__law_same F_is_heard F__law_behind
  exact ⟨f, fd, ["box", "joined", "first", "second"], rfl, hm, ok, Fn.kp, Fn.binds fun _ _ _ _ _ _ us hl => match us, hl with | [_, _, _, _], _ => rfl⟩
theorem sc__law_right : FnScope ["box", "named", "first", "second", "made", "other", "way", "due", "told"] ["box", "named"] (defScope s__law_right) := ⟨rfl, rfl, rfl, by decide +kernel, rfl, by decide +kernel, by decide +kernel⟩
def b__law_right : GS := sSeq (sTgt (gL [2, 3]) (eCallB m__law_lines 0 (aNil))) (sSeq (sPar 4 5 (eNew 5 m_Line (aCons (eOp2 pIx (eVar 2) (eC (.int 0))) (aCons (eOp2 pIx (eVar 2) (eC (.int 2))) (aNil)))) (eNew 5 m_Line (aCons (eOp2 pIx (eVar 3) (eC (.int 0))) (aCons (eOp2 pIx (eVar 3) (eC (.int 2))) (aNil))))) (sSeq (sFor (gN 6) (iRng (eC (.int 3))) (sSeq (sSet 7 (eIf (gBl (eOp2 pEq (eVar 6) (eC (.int 1)))) (eCall m__law_due (aCons (eVar 3) (aCons (eVar 2) (aNil)))) (eCall m__law_due (aCons (eVar 2) (aCons (eVar 3) (aNil)))))) (sSeq (sSet 8 (eIf (gBl (eOp2 pEq (eVar 6) (eC (.int 1)))) (eCall m__law_asked (aCons (eVar 5) (aCons (eVar 4) (aCons (eVar 1) (aNil))))) (eCall m__law_asked (aCons (eVar 4) (aCons (eVar 5) (aCons (eVar 1) (aNil))))))) (sSeq (sIf (gAnd (gBl (eOp2 pEq (eOp2 pIx (eVar 7) (eC (.int 0))) (eC (.str "many")))) (gNot (gVal (eCall r__law_same (aCons (eVar 8) (aCons (eVar 7) (aNil))))))) (sRet (eC (.bl false))) (sNil)) (sSeq (sIf (gAnd (gBl (eOp2 pEq (eOp2 pIx (eVar 7) (eC (.int 0))) (eC (.str "told")))) (gOr (gBl (eOp2 pNe (eOp2 pIx (eVar 8) (eC (.int 0))) (eC (.str "told")))) (gNot (gVal (eCall m__law_is_line (aCons (eOp2 pIx (eVar 8) (eC (.int 1))) (aCons (eOp2 pIx (eVar 7) (eC (.int 1))) (aNil)))))))) (sRet (eC (.bl false))) (sNil)) (sSeq (sIf (gAnd (gBl (eOp2 pEq (eOp2 pIx (eVar 7) (eC (.int 0))) (eC (.str "told")))) (gAnd (gBl (eOp2 pLtT (eVar 6) (eC (.int 2)))) (gNot (gVal (eCallB m__law_heard_right 0 (aCons (eOp2 pIx (eVar 8) (eC (.int 1))) (aCons (eOp2 pIx (eLst (lDisp (aCons (eVar 2) (aCons (eVar 3) (aNil))))) (eVar 6)) (aCons (eOp2 pIx (eLst (lDisp (aCons (eVar 3) (aCons (eVar 2) (aNil))))) (eVar 6)) (aNil))))))))) (sRet (eC (.bl false))) (sNil)) (sSet 1 (eNot (eVar 1))))))))) (sRet (eAnd (eCall m__law_is_line (aCons (eVar 4) (aCons (eVar 2) (aNil)))) (eCall m__law_is_line (aCons (eVar 5) (aCons (eVar 3) (aNil))))))))
def m__law_right : GF := fnV 9 pin0 b__law_right
theorem fo__law_right (T : Txt K w mg) (F__law_lines : Fv P w K mg base (cc K B) 3 "_law_lines" 1 m__law_lines) (N_Line : Nv P w K mg base (cc K B) 5 "Line" 5 2 m_Line) (F__law_due : Fv P w K mg base (cc K B) 1 "_law_due" 2 m__law_due) (F__law_asked : Fv P w K mg base (cc K B) 8 "_law_asked" 3 m__law_asked) (F__law_same : Fv P w K mg base (cc K B) 13 "_law_same" 2 r__law_same) (F__law_is_line : Fv P w K mg base (cc K B) 14 "_law_is_line" 2 m__law_is_line) (F__law_heard_right : Fv P w K mg base (cc K B) 14 "_law_heard_right" 4 m__law_heard_right) : ∃ f fd, mg "_law_right" = some (.ref f) ∧ FnOk P w K mg base (L2.CX P w) 15 f fd ["box", "named"] (SpV (cc K B) 2 m__law_right) ∧ Fun K "_law_right" "_law_right" s__law_right f fd := by
  obtain ⟨f, fd, hm, Fn⟩ := T.d__law_right
  exact ⟨f, fd, hm, fn_ok (c := cc K B) (N := ["box", "named", "first", "second", "made", "other", "way", "due", "told"]) (pn := pin0) rfl Fn sc__law_right rfl (by decide) (fun cdv A outer s H E hr => vss_cons (vs_tgt (ve_callB' F__law_lines hr (by decide) rfl (takes_of rfl rfl rfl rfl) (pv 0) (va_nil)) (pg_lst rfl (pgs_cons (pg_name (i := 2) sc__law_right.nd rfl (by first | exact .inl rfl | exact .inr rfl)) (pgs_cons (pg_name (i := 3) sc__law_right.nd rfl (by first | exact .inl rfl | exact .inr rfl)) (pgs_nil)))) (tg_lst rfl (.cons (.cons (.nil)))) (by decide)) (vss_cons (vs_par (i := 4) (j := 5) rfl sc__law_right.nd rfl rfl (by decide) rfl rfl rfl rfl (ve_new N_Line hr (by decide) rfl (takes_of rfl rfl rfl rfl) (va_cons (ve_ix (ix_4 (hu1 hr)) (o_ix rfl) (ve_var (pv 2)) (ve_int)) (va_cons (ve_ix (ix_4 (hu1 hr)) (o_ix rfl) (ve_var (pv 2)) (ve_int)) (va_nil)))) (ve_new N_Line hr (by decide) rfl (takes_of rfl rfl rfl rfl) (va_cons (ve_ix (ix_4 (hu1 hr)) (o_ix rfl) (ve_var (pv 3)) (ve_int)) (va_cons (ve_ix (ix_4 (hu1 hr)) (o_ix rfl) (ve_var (pv 3)) (ve_int)) (va_nil)))) rfl) (vss_cons (vs_for (passes_of rfl) rfl (vi_rng rfl T.f_range (ve_int)) (pg_name (i := 6) sc__law_right.nd rfl (by first | exact .inl rfl | exact .inr rfl)) (tg_name 6) (by decide) (vss_cons (vs_set (i := 7) sc__law_right.nd rfl (by first | exact .inl rfl | exact .inr rfl) rfl (ve_if (vt_cmp (op_eq2 (hu64 hr)) (o_eq rfl) rfl (ve_var (pv 6)) (ve_int)) (ve_call F__law_due hr (by decide) rfl (takes_of rfl rfl rfl rfl) (va_cons (ve_var (pv 3)) (va_cons (ve_var (pv 2)) (va_nil)))) (ve_call F__law_due hr (by decide) rfl (takes_of rfl rfl rfl rfl) (va_cons (ve_var (pv 2)) (va_cons (ve_var (pv 3)) (va_nil)))))) (vss_cons (vs_set (i := 8) sc__law_right.nd rfl (by first | exact .inl rfl | exact .inr rfl) rfl (ve_if (vt_cmp (op_eq2 (hu64 hr)) (o_eq rfl) rfl (ve_var (pv 6)) (ve_int)) (ve_call F__law_asked hr (by decide) rfl (takes_of rfl rfl rfl rfl) (va_cons (ve_var (pv 5)) (va_cons (ve_var (pv 4)) (va_cons (ve_var (pv 1)) (va_nil))))) (ve_call F__law_asked hr (by decide) rfl (takes_of rfl rfl rfl rfl) (va_cons (ve_var (pv 4)) (va_cons (ve_var (pv 5)) (va_cons (ve_var (pv 1)) (va_nil))))))) (vss_cons (vs_if (vt_pw (vw_and (vt_cmp (op_eq2 (hu64 hr)) (o_eq rfl) rfl (ve_ix (ix_4 (hu1 hr)) (o_ix rfl) (ve_var (pv 7)) (ve_int)) (ve_str)) (vw_and1 (vt_not (vt_val rfl (ve_call F__law_same hr (by decide) rfl (takes_of rfl rfl rfl rfl) (va_cons (ve_var (pv 8)) (va_cons (ve_var (pv 7)) (va_nil))))))))) (vss_one (vs_ret (ve_bl))) (vss_nil)) (vss_cons (vs_if (vt_pw (vw_and (vt_cmp (op_eq2 (hu64 hr)) (o_eq rfl) rfl (ve_ix (ix_4 (hu1 hr)) (o_ix rfl) (ve_var (pv 7)) (ve_int)) (ve_str)) (vw_and1 (vt_pw (vw_or (vt_cmp (op_ne2 (hu64 hr)) (o_ne rfl) rfl (ve_ix (ix_4 (hu1 hr)) (o_ix rfl) (ve_var (pv 8)) (ve_int)) (ve_str)) (vw_or1 (vt_not (vt_val rfl (ve_call F__law_is_line hr (by decide) rfl (takes_of rfl rfl rfl rfl) (va_cons (ve_ix (ix_4 (hu1 hr)) (o_ix rfl) (ve_var (pv 8)) (ve_int)) (va_cons (ve_ix (ix_4 (hu1 hr)) (o_ix rfl) (ve_var (pv 7)) (ve_int)) (va_nil)))))))))))) (vss_one (vs_ret (ve_bl))) (vss_nil)) (vss_cons (vs_if (vt_pw (vw_and (vt_cmp (op_eq2 (hu64 hr)) (o_eq rfl) rfl (ve_ix (ix_4 (hu1 hr)) (o_ix rfl) (ve_var (pv 7)) (ve_int)) (ve_str)) (vw_and (vt_cmp (op_ltA (hu0 hr)) (o_ltA rfl) rfl (ve_var (pv 6)) (ve_int)) (vw_and1 (vt_not (vt_val rfl (ve_callB' F__law_heard_right hr (by decide) rfl (takes_of rfl rfl rfl rfl) (pv 0) (va_cons (ve_ix (ix_4 (hu1 hr)) (o_ix rfl) (ve_var (pv 8)) (ve_int)) (va_cons (ve_ix (ix_4 (hu1 hr)) (o_ix rfl) (ve_lst (vl_disp (va_cons (ve_var (pv 2)) (va_cons (ve_var (pv 3)) (va_nil))))) (ve_var (pv 6))) (va_cons (ve_ix (ix_4 (hu1 hr)) (o_ix rfl) (ve_lst (vl_disp (va_cons (ve_var (pv 3)) (va_cons (ve_var (pv 2)) (va_nil))))) (ve_var (pv 6))) (va_nil))))))))))) (vss_one (vs_ret (ve_bl))) (vss_nil)) (vss_one (vs_set (i := 1) sc__law_right.nd rfl (by first | exact .inl rfl | exact .inr rfl) rfl (ve_not (ve_var (pv 1))))))))))) (vss_one (vs_ret (ve_and (ve_call F__law_is_line hr (by decide) rfl (takes_of rfl rfl rfl rfl) (va_cons (ve_var (pv 4)) (va_cons (ve_var (pv 2)) (va_nil)))) (ve_one (ve_call F__law_is_line hr (by decide) rfl (takes_of rfl rfl rfl rfl) (va_cons (ve_var (pv 5)) (va_cons (ve_var (pv 3)) (va_nil))))))))))), Fn⟩
theorem fv__law_right (T : Txt K w mg) (F__law_lines : Fv P w K mg base (cc K B) 3 "_law_lines" 1 m__law_lines) (N_Line : Nv P w K mg base (cc K B) 5 "Line" 5 2 m_Line) (F__law_due : Fv P w K mg base (cc K B) 1 "_law_due" 2 m__law_due) (F__law_asked : Fv P w K mg base (cc K B) 8 "_law_asked" 3 m__law_asked) (F__law_same : Fv P w K mg base (cc K B) 13 "_law_same" 2 r__law_same) (F__law_is_line : Fv P w K mg base (cc K B) 14 "_law_is_line" 2 m__law_is_line) (F__law_heard_right : Fv P w K mg base (cc K B) 14 "_law_heard_right" 4 m__law_heard_right) : Fv P w K mg base (cc K B) 15 "_law_right" 2 m__law_right := by
  obtain ⟨f, fd, hm, ok, Fn⟩ := fo__law_right (P := P) (base := base) (B := B) T F__law_lines N_Line F__law_due F__law_asked F__law_same F__law_is_line F__law_heard_right
  exact ⟨f, fd, ["box", "named"], rfl, hm, ok, Fn.kp, Fn.binds fun _ _ _ _ _ _ us hl => match us, hl with | [_, _], _ => rfl⟩
theorem sc_law : FnScope ["script", "k", "box"] ["script"] (defScope s_law) := ⟨rfl, rfl, rfl, by decide +kernel, rfl, by decide +kernel, by decide +kernel⟩
def b_law : GS := sSeq (sFor (gN 1) (iRng (eOp2 pMax2 (eC (.int 1)) (eOp2 pMin2 (eC (.int 3)) (eOp1 pLen (eVar 0))))) (sSeq (sBox 2 (lCall m__law_box (aCons (eCall m__law_cell (aCons (eVar 0) (aCons (eVar 1) (aNil)))) (aNil)))) (sIf (gNot (gVal (eCallB m__law_right 2 (aCons (eOp2 pEq (eCallB mTake 2 (aCons (eC (.int 2)) (aNil))) (eC (.int 0))) (aNil))))) (sRet (eC (.bl false))) (sNil)))) (sRet (eC (.bl true)))
def m_law : GF := fnV 3 noPin b_law
theorem fo_law (T : Txt K w mg) (F__law_box : FvL P w K mg base (cc K B) 1 "_law_box" 1 m__law_box) (F__law_cell : Fv P w K mg base (cc K B) 1 "_law_cell" 2 m__law_cell) (F__law_right : Fv P w K mg base (cc K B) 15 "_law_right" 2 m__law_right) (F__law_take : Fv P w K mg base (cc K B) 1 "_law_take" 2 mTake) : ∃ f fd, mg "law" = some (.ref f) ∧ FnOk P w K mg base (L2.CX P w) 16 f fd ["script"] (SpV (cc K B) 1 m_law) ∧ Fun K "law" "law" s_law f fd := by
  obtain ⟨f, fd, hm, Fn⟩ := T.d_law
  exact ⟨f, fd, hm, fn_ok (c := cc K B) (N := ["script", "k", "box"]) (pn := noPin) rfl Fn sc_law rfl (by decide) (fun cdv A outer s H E hr => vss_cons (vs_for (passes_of rfl) rfl (vi_rng rfl T.f_range (ve_callB2 (call_max2 rfl) o_max2 rfl T.f_max b_max (ve_int) (ve_callB2 (call_min2 rfl) o_min2 rfl T.f_min b_min (ve_int) (ve_callB call_len2 (o_len rfl) rfl T.f_len b_len (ve_var (pv 0)))))) (pg_name (i := 1) sc_law.nd rfl (by first | exact .inl rfl | exact .inr rfl)) (tg_name 1) (by decide) (vss_cons (vs_box (i := 2) sc_law.nd rfl (by first | exact .inl rfl | exact .inr rfl) rfl (vl_callF F__law_box hr (by decide) rfl (takes_of rfl rfl rfl rfl) (va_cons (ve_call F__law_cell hr (by decide) rfl (takes_of rfl rfl rfl rfl) (va_cons (ve_var (pv 0)) (va_cons (ve_var (pv 1)) (va_nil)))) (va_nil)))) (vss_one (vs_if (vt_not (vt_val rfl (ve_callB' F__law_right hr (by decide) rfl (takes_of rfl rfl rfl rfl) (pv 2) (va_cons (ve_cmp (op_eq2 (hu64 hr)) (o_eq rfl) rfl (ve_callB' F__law_take hr (by decide) rfl (takes_of rfl rfl rfl rfl) (pv 2) (va_cons (ve_int) (va_nil))) (ve_int)) (va_nil))))) (vss_one (vs_ret (ve_bl))) (vss_nil))))) (vss_one (vs_ret (ve_bl)))), Fn⟩
theorem fv_law (T : Txt K w mg) (F__law_box : FvL P w K mg base (cc K B) 1 "_law_box" 1 m__law_box) (F__law_cell : Fv P w K mg base (cc K B) 1 "_law_cell" 2 m__law_cell) (F__law_right : Fv P w K mg base (cc K B) 15 "_law_right" 2 m__law_right) (F__law_take : Fv P w K mg base (cc K B) 1 "_law_take" 2 mTake) : Fv P w K mg base (cc K B) 16 "law" 1 m_law := by
  obtain ⟨f, fd, hm, ok, Fn⟩ := fo_law (P := P) (base := base) (B := B) T F__law_box F__law_cell F__law_right F__law_take
  exact ⟨f, fd, ["script"], rfl, hm, ok, Fn.kp, Fn.binds fun _ _ _ _ _ _ us hl => match us, hl with | [_], _ => rfl⟩
end
def fa : List He.Fa := [.free "abs", .free "all", .free "bool", .free "int", .free "isinstance", .free "len", .free "list", .free "max", .free "min", .free "range", .free "str", .free "sum", .free "tuple", .int "MOST_MARKS" 8, .int "MOST_SIGNS" 6, .int "MOST_PLACES" 8, .int "MOST_HEARD" 200, .glo "is_whole", .glo "is_between", .glo "is_list", .glo "is_list_of", .glo "is_tuple_of", .glo "is_ascending", .glo "is_comings", .glo "are_ways", .glo "are_told", .glo "state_behind", .glo "is_heard", .glo "line_behind", .glo "check_count", .glo "lines_beside", .glo "_law_cell", .glo "_law_box", .glo "_law_take", .glo "_law_same", .glo "_law_any_line", .glo "_law_is_line", .glo "_law_sizes", .glo "_law_lines", .glo "_law_due", .glo "_law_asked", .glo "_law_after", .glo "_law_walked", .glo "_law_heard", .glo "_law_bent", .glo "_law_behind", .glo "_law_heard_right", .glo "_law_right", .glo "law", .glo "WireError", .glo "InvalidHeard", .glo "InvalidMarks", .glo "InvalidWays", .glo "TooMany", .glo "Line"]
def fnD : List He.DefD := [
  ⟨("is_whole", none), "is_whole", "is_whole", defArgs s_is_whole, defBody s_is_whole, defScope s_is_whole, [], []⟩,
  ⟨("is_between", none), "is_between", "is_between", defArgs s_is_between, defBody s_is_between, defScope s_is_between, [], []⟩,
  ⟨("is_list", none), "is_list", "is_list", defArgs s_is_list, defBody s_is_list, defScope s_is_list, [], []⟩,
  ⟨("is_list_of", none), "is_list_of", "is_list_of", defArgs s_is_list_of, defBody s_is_list_of, defScope s_is_list_of, [], []⟩,
  ⟨("is_tuple_of", none), "is_tuple_of", "is_tuple_of", defArgs s_is_tuple_of, defBody s_is_tuple_of, defScope s_is_tuple_of, [], []⟩,
  ⟨("is_ascending", none), "is_ascending", "is_ascending", defArgs s_is_ascending, defBody s_is_ascending, defScope s_is_ascending, [], []⟩,
  ⟨("is_comings", none), "is_comings", "is_comings", defArgs s_is_comings, defBody s_is_comings, defScope s_is_comings, [], []⟩,
  ⟨("are_ways", none), "are_ways", "are_ways", defArgs s_are_ways, defBody s_are_ways, defScope s_are_ways, [], []⟩,
  ⟨("are_told", none), "are_told", "are_told", defArgs s_are_told, defBody s_are_told, defScope s_are_told, [], []⟩,
  ⟨("state_behind", none), "state_behind", "state_behind", defArgs s_state_behind, defBody s_state_behind, defScope s_state_behind, [], []⟩,
  ⟨("is_heard", none), "is_heard", "is_heard", defArgs s_is_heard, defBody s_is_heard, defScope s_is_heard, [], []⟩,
  ⟨("line_behind", none), "line_behind", "line_behind", defArgs s_line_behind, defBody s_line_behind, defScope s_line_behind, [], []⟩,
  ⟨("check_count", none), "check_count", "check_count", defArgs s_check_count, defBody s_check_count, defScope s_check_count, [], []⟩,
  ⟨("lines_beside", none), "lines_beside", "lines_beside", defArgs s_lines_beside, defBody s_lines_beside, defScope s_lines_beside, [], []⟩,
  ⟨("_law_cell", none), "_law_cell", "_law_cell", defArgs s__law_cell, defBody s__law_cell, defScope s__law_cell, [], []⟩,
  ⟨("_law_box", none), "_law_box", "_law_box", defArgs s__law_box, defBody s__law_box, defScope s__law_box, [], []⟩,
  ⟨("_law_take", none), "_law_take", "_law_take", defArgs s__law_take, defBody s__law_take, defScope s__law_take, [], []⟩,
  ⟨("_law_same", none), "_law_same", "_law_same", defArgs s__law_same, defBody s__law_same, defScope s__law_same, [], []⟩,
  ⟨("_law_any_line", none), "_law_any_line", "_law_any_line", defArgs s__law_any_line, defBody s__law_any_line, defScope s__law_any_line, [], []⟩,
  ⟨("_law_is_line", none), "_law_is_line", "_law_is_line", defArgs s__law_is_line, defBody s__law_is_line, defScope s__law_is_line, [], []⟩,
  ⟨("_law_sizes", none), "_law_sizes", "_law_sizes", defArgs s__law_sizes, defBody s__law_sizes, defScope s__law_sizes, [], []⟩,
  ⟨("_law_lines", none), "_law_lines", "_law_lines", defArgs s__law_lines, defBody s__law_lines, defScope s__law_lines, [], []⟩,
  ⟨("_law_due", none), "_law_due", "_law_due", defArgs s__law_due, defBody s__law_due, defScope s__law_due, [], []⟩,
  ⟨("_law_asked", none), "_law_asked", "_law_asked", defArgs s__law_asked, defBody s__law_asked, defScope s__law_asked, [], []⟩,
  ⟨("_law_after", none), "_law_after", "_law_after", defArgs s__law_after, defBody s__law_after, defScope s__law_after, [], []⟩,
  ⟨("_law_walked", none), "_law_walked", "_law_walked", defArgs s__law_walked, defBody s__law_walked, defScope s__law_walked, [], []⟩,
  ⟨("_law_heard", none), "_law_heard", "_law_heard", defArgs s__law_heard, defBody s__law_heard, defScope s__law_heard, [], []⟩,
  ⟨("_law_bent", none), "_law_bent", "_law_bent", defArgs s__law_bent, defBody s__law_bent, defScope s__law_bent, [], []⟩,
  ⟨("_law_behind", none), "_law_behind", "_law_behind", defArgs s__law_behind, defBody s__law_behind, defScope s__law_behind, [], []⟩,
  ⟨("_law_heard_right", none), "_law_heard_right", "_law_heard_right", defArgs s__law_heard_right, defBody s__law_heard_right, defScope s__law_heard_right, [], []⟩,
  ⟨("_law_right", none), "_law_right", "_law_right", defArgs s__law_right, defBody s__law_right, defScope s__law_right, [], []⟩,
  ⟨("law", none), "law", "law", defArgs s_law, defBody s_law, defScope s_law, [], []⟩,
  ⟨("InvalidHeard", some "__init__"), "__init__", "InvalidHeard.__init__", defArgs s_InvalidHeard, defBody s_InvalidHeard, defScope s_InvalidHeard, [], []⟩,
  ⟨("InvalidMarks", some "__init__"), "__init__", "InvalidMarks.__init__", defArgs s_InvalidMarks, defBody s_InvalidMarks, defScope s_InvalidMarks, [], []⟩,
  ⟨("InvalidWays", some "__init__"), "__init__", "InvalidWays.__init__", defArgs s_InvalidWays, defBody s_InvalidWays, defScope s_InvalidWays, [], []⟩,
  ⟨("TooMany", some "__init__"), "__init__", "TooMany.__init__", defArgs s_TooMany, defBody s_TooMany, defScope s_TooMany, [], []⟩,
  ⟨("Line", some "__init__"), "__init__", "Line.__init__", defArgs si_Line, defBody si_Line, defScope si_Line, [], []⟩,
  ⟨("Line", some "__eq__"), "__eq__", "Line.__eq__", defArgs se_Line, defBody se_Line, defScope se_Line, [], []⟩]
def tsD : List He.Tab := []
def exB (K : PySem.W.Frag) : Bool := excB K "InvalidHeard" "given" && (excB K "InvalidMarks" "given" && (excB K "InvalidWays" "given" && (excB K "TooMany" "count" && (decide (PySem.W.exmOne K (.ref (He.ga K "InvalidHeard")) (.ref (He.ga K "WireError")) = some true) && (decide (PySem.W.exmOne K (.ref (He.ga K "InvalidHeard")) (.ref (He.ga K "InvalidHeard")) = some true) && (decide (PySem.W.exmOne K (.ref (He.ga K "InvalidHeard")) (.ref (He.ga K "InvalidMarks")) = some false) && (decide (PySem.W.exmOne K (.ref (He.ga K "InvalidHeard")) (.ref (He.ga K "InvalidWays")) = some false) && (decide (PySem.W.exmOne K (.ref (He.ga K "InvalidHeard")) (.ref (He.ga K "TooMany")) = some false) && (decide (PySem.W.exmOne K (.ref (He.ga K "InvalidMarks")) (.ref (He.ga K "WireError")) = some true) && (decide (PySem.W.exmOne K (.ref (He.ga K "InvalidMarks")) (.ref (He.ga K "InvalidHeard")) = some false) && (decide (PySem.W.exmOne K (.ref (He.ga K "InvalidMarks")) (.ref (He.ga K "InvalidMarks")) = some true) && (decide (PySem.W.exmOne K (.ref (He.ga K "InvalidMarks")) (.ref (He.ga K "InvalidWays")) = some false) && (decide (PySem.W.exmOne K (.ref (He.ga K "InvalidMarks")) (.ref (He.ga K "TooMany")) = some false) && (decide (PySem.W.exmOne K (.ref (He.ga K "InvalidWays")) (.ref (He.ga K "WireError")) = some true) && (decide (PySem.W.exmOne K (.ref (He.ga K "InvalidWays")) (.ref (He.ga K "InvalidHeard")) = some false) && (decide (PySem.W.exmOne K (.ref (He.ga K "InvalidWays")) (.ref (He.ga K "InvalidMarks")) = some false) && (decide (PySem.W.exmOne K (.ref (He.ga K "InvalidWays")) (.ref (He.ga K "InvalidWays")) = some true) && (decide (PySem.W.exmOne K (.ref (He.ga K "InvalidWays")) (.ref (He.ga K "TooMany")) = some false) && (decide (PySem.W.exmOne K (.ref (He.ga K "TooMany")) (.ref (He.ga K "WireError")) = some true) && (decide (PySem.W.exmOne K (.ref (He.ga K "TooMany")) (.ref (He.ga K "InvalidHeard")) = some false) && (decide (PySem.W.exmOne K (.ref (He.ga K "TooMany")) (.ref (He.ga K "InvalidMarks")) = some false) && (decide (PySem.W.exmOne K (.ref (He.ga K "TooMany")) (.ref (He.ga K "InvalidWays")) = some false) && (decide (PySem.W.exmOne K (.ref (He.ga K "TooMany")) (.ref (He.ga K "TooMany")) = some true) && (clsB K "Line" flds_Line && (eqCB K "Line")))))))))))))))))))))))))
theorem txt_of {K : PySem.W.Frag} {w : World} {h : Heap} {mg : Str → Option Value} (X : K.In h) (G : h.Ns mainGlobals mg) (c : He.SaysT fa fnD tsD w K) (e : exB K = true) : Txt K w mg := by
  have fx : ∀ i {f : He.Fa}, fa[i]? = some f → f.ok K = true := fun i f q => c.d.fact i q
  obtain ⟨e0, e⟩ := Bool.and_eq_true_iff.mp e
  obtain ⟨e1, e⟩ := Bool.and_eq_true_iff.mp e
  obtain ⟨e2, e⟩ := Bool.and_eq_true_iff.mp e
  obtain ⟨e3, e⟩ := Bool.and_eq_true_iff.mp e
  obtain ⟨e4, e⟩ := Bool.and_eq_true_iff.mp e
  obtain ⟨e5, e⟩ := Bool.and_eq_true_iff.mp e
  obtain ⟨e6, e⟩ := Bool.and_eq_true_iff.mp e
  obtain ⟨e7, e⟩ := Bool.and_eq_true_iff.mp e
  obtain ⟨e8, e⟩ := Bool.and_eq_true_iff.mp e
  obtain ⟨e9, e⟩ := Bool.and_eq_true_iff.mp e
  obtain ⟨e10, e⟩ := Bool.and_eq_true_iff.mp e
  obtain ⟨e11, e⟩ := Bool.and_eq_true_iff.mp e
  obtain ⟨e12, e⟩ := Bool.and_eq_true_iff.mp e
  obtain ⟨e13, e⟩ := Bool.and_eq_true_iff.mp e
  obtain ⟨e14, e⟩ := Bool.and_eq_true_iff.mp e
  obtain ⟨e15, e⟩ := Bool.and_eq_true_iff.mp e
  obtain ⟨e16, e⟩ := Bool.and_eq_true_iff.mp e
  obtain ⟨e17, e⟩ := Bool.and_eq_true_iff.mp e
  obtain ⟨e18, e⟩ := Bool.and_eq_true_iff.mp e
  obtain ⟨e19, e⟩ := Bool.and_eq_true_iff.mp e
  obtain ⟨e20, e⟩ := Bool.and_eq_true_iff.mp e
  obtain ⟨e21, e⟩ := Bool.and_eq_true_iff.mp e
  obtain ⟨e22, e⟩ := Bool.and_eq_true_iff.mp e
  obtain ⟨e23, e⟩ := Bool.and_eq_true_iff.mp e
  obtain ⟨e24, e⟩ := Bool.and_eq_true_iff.mp e
  have e25 := e
  exact {
    f_abs := He.free_ok X G (fx 0 rfl)
    f_all := He.free_ok X G (fx 1 rfl)
    f_bool := He.free_ok X G (fx 2 rfl)
    f_int := He.free_ok X G (fx 3 rfl)
    f_isinstance := He.free_ok X G (fx 4 rfl)
    f_len := He.free_ok X G (fx 5 rfl)
    f_list := He.free_ok X G (fx 6 rfl)
    f_max := He.free_ok X G (fx 7 rfl)
    f_min := He.free_ok X G (fx 8 rfl)
    f_range := He.free_ok X G (fx 9 rfl)
    f_str := He.free_ok X G (fx 10 rfl)
    f_sum := He.free_ok X G (fx 11 rfl)
    f_tuple := He.free_ok X G (fx 12 rfl)
    i_MOST_MARKS := He.int_ok X G (fx 13 rfl)
    i_MOST_SIGNS := He.int_ok X G (fx 14 rfl)
    i_MOST_PLACES := He.int_ok X G (fx 15 rfl)
    i_MOST_HEARD := He.int_ok X G (fx 16 rfl)
    d_is_whole := (let ⟨fd, F⟩ := c.d.def_ 0 rfl; ⟨_, fd, He.glo_ok X G (fx 17 rfl), fun_of F⟩)
    d_is_between := (let ⟨fd, F⟩ := c.d.def_ 1 rfl; ⟨_, fd, He.glo_ok X G (fx 18 rfl), fun_of F⟩)
    d_is_list := (let ⟨fd, F⟩ := c.d.def_ 2 rfl; ⟨_, fd, He.glo_ok X G (fx 19 rfl), fun_of F⟩)
    d_is_list_of := (let ⟨fd, F⟩ := c.d.def_ 3 rfl; ⟨_, fd, He.glo_ok X G (fx 20 rfl), fun_of F⟩)
    d_is_tuple_of := (let ⟨fd, F⟩ := c.d.def_ 4 rfl; ⟨_, fd, He.glo_ok X G (fx 21 rfl), fun_of F⟩)
    d_is_ascending := (let ⟨fd, F⟩ := c.d.def_ 5 rfl; ⟨_, fd, He.glo_ok X G (fx 22 rfl), fun_of F⟩)
    d_is_comings := (let ⟨fd, F⟩ := c.d.def_ 6 rfl; ⟨_, fd, He.glo_ok X G (fx 23 rfl), fun_of F⟩)
    d_are_ways := (let ⟨fd, F⟩ := c.d.def_ 7 rfl; ⟨_, fd, He.glo_ok X G (fx 24 rfl), fun_of F⟩)
    d_are_told := (let ⟨fd, F⟩ := c.d.def_ 8 rfl; ⟨_, fd, He.glo_ok X G (fx 25 rfl), fun_of F⟩)
    d_state_behind := (let ⟨fd, F⟩ := c.d.def_ 9 rfl; ⟨_, fd, He.glo_ok X G (fx 26 rfl), fun_of F⟩)
    d_is_heard := (let ⟨fd, F⟩ := c.d.def_ 10 rfl; ⟨_, fd, He.glo_ok X G (fx 27 rfl), fun_of F⟩)
    d_line_behind := (let ⟨fd, F⟩ := c.d.def_ 11 rfl; ⟨_, fd, He.glo_ok X G (fx 28 rfl), fun_of F⟩)
    d_check_count := (let ⟨fd, F⟩ := c.d.def_ 12 rfl; ⟨_, fd, He.glo_ok X G (fx 29 rfl), fun_of F⟩)
    d_lines_beside := (let ⟨fd, F⟩ := c.d.def_ 13 rfl; ⟨_, fd, He.glo_ok X G (fx 30 rfl), fun_of F⟩)
    d__law_cell := (let ⟨fd, F⟩ := c.d.def_ 14 rfl; ⟨_, fd, He.glo_ok X G (fx 31 rfl), fun_of F⟩)
    d__law_box := (let ⟨fd, F⟩ := c.d.def_ 15 rfl; ⟨_, fd, He.glo_ok X G (fx 32 rfl), fun_of F⟩)
    d__law_take := (let ⟨fd, F⟩ := c.d.def_ 16 rfl; ⟨_, fd, He.glo_ok X G (fx 33 rfl), fun_of F⟩)
    d__law_same := (let ⟨fd, F⟩ := c.d.def_ 17 rfl; ⟨_, fd, He.glo_ok X G (fx 34 rfl), fun_of F⟩)
    d__law_any_line := (let ⟨fd, F⟩ := c.d.def_ 18 rfl; ⟨_, fd, He.glo_ok X G (fx 35 rfl), fun_of F⟩)
    d__law_is_line := (let ⟨fd, F⟩ := c.d.def_ 19 rfl; ⟨_, fd, He.glo_ok X G (fx 36 rfl), fun_of F⟩)
    d__law_sizes := (let ⟨fd, F⟩ := c.d.def_ 20 rfl; ⟨_, fd, He.glo_ok X G (fx 37 rfl), fun_of F⟩)
    d__law_lines := (let ⟨fd, F⟩ := c.d.def_ 21 rfl; ⟨_, fd, He.glo_ok X G (fx 38 rfl), fun_of F⟩)
    d__law_due := (let ⟨fd, F⟩ := c.d.def_ 22 rfl; ⟨_, fd, He.glo_ok X G (fx 39 rfl), fun_of F⟩)
    d__law_asked := (let ⟨fd, F⟩ := c.d.def_ 23 rfl; ⟨_, fd, He.glo_ok X G (fx 40 rfl), fun_of F⟩)
    d__law_after := (let ⟨fd, F⟩ := c.d.def_ 24 rfl; ⟨_, fd, He.glo_ok X G (fx 41 rfl), fun_of F⟩)
    d__law_walked := (let ⟨fd, F⟩ := c.d.def_ 25 rfl; ⟨_, fd, He.glo_ok X G (fx 42 rfl), fun_of F⟩)
    d__law_heard := (let ⟨fd, F⟩ := c.d.def_ 26 rfl; ⟨_, fd, He.glo_ok X G (fx 43 rfl), fun_of F⟩)
    d__law_bent := (let ⟨fd, F⟩ := c.d.def_ 27 rfl; ⟨_, fd, He.glo_ok X G (fx 44 rfl), fun_of F⟩)
    d__law_behind := (let ⟨fd, F⟩ := c.d.def_ 28 rfl; ⟨_, fd, He.glo_ok X G (fx 45 rfl), fun_of F⟩)
    d__law_heard_right := (let ⟨fd, F⟩ := c.d.def_ 29 rfl; ⟨_, fd, He.glo_ok X G (fx 46 rfl), fun_of F⟩)
    d__law_right := (let ⟨fd, F⟩ := c.d.def_ 30 rfl; ⟨_, fd, He.glo_ok X G (fx 47 rfl), fun_of F⟩)
    d_law := (let ⟨fd, F⟩ := c.d.def_ 31 rfl; ⟨_, fd, He.glo_ok X G (fx 48 rfl), fun_of F⟩)
    g_WireError := He.glo_ok X G (fx 49 rfl)
    g_InvalidHeard := He.glo_ok X G (fx 50 rfl)
    g_InvalidMarks := He.glo_ok X G (fx 51 rfl)
    g_InvalidWays := He.glo_ok X G (fx 52 rfl)
    g_TooMany := He.glo_ok X G (fx 53 rfl)
    g_Line := He.glo_ok X G (fx 54 rfl)
    c_Line := (clsB_ok e24).1
    k_Line := (clsB_ok e24).2
    ni_Line := (let ⟨fd, F⟩ := c.d.def_ 36 rfl; ⟨fd, fun_of F⟩)
    q_Line := eqCB_ok e25
    ne_Line := (let ⟨fd, F⟩ := c.d.def_ 37 rfl; ⟨fd, fun_of F⟩)
    x_InvalidHeard := excB_ok e0
    n_InvalidHeard := (let ⟨fd, F⟩ := c.d.def_ 32 rfl; ⟨fd, fun_of F⟩)
    x_InvalidMarks := excB_ok e1
    n_InvalidMarks := (let ⟨fd, F⟩ := c.d.def_ 33 rfl; ⟨fd, fun_of F⟩)
    x_InvalidWays := excB_ok e2
    n_InvalidWays := (let ⟨fd, F⟩ := c.d.def_ 34 rfl; ⟨fd, fun_of F⟩)
    x_TooMany := excB_ok e3
    n_TooMany := (let ⟨fd, F⟩ := c.d.def_ 35 rfl; ⟨fd, fun_of F⟩)
    em := fun k j b h => by
      unfold exT at h
      split at h
      · cases h; exact of_decide_eq_true e4
      · cases h; exact of_decide_eq_true e5
      · cases h; exact of_decide_eq_true e6
      · cases h; exact of_decide_eq_true e7
      · cases h; exact of_decide_eq_true e8
      · cases h; exact of_decide_eq_true e9
      · cases h; exact of_decide_eq_true e10
      · cases h; exact of_decide_eq_true e11
      · cases h; exact of_decide_eq_true e12
      · cases h; exact of_decide_eq_true e13
      · cases h; exact of_decide_eq_true e14
      · cases h; exact of_decide_eq_true e15
      · cases h; exact of_decide_eq_true e16
      · cases h; exact of_decide_eq_true e17
      · cases h; exact of_decide_eq_true e18
      · cases h; exact of_decide_eq_true e19
      · cases h; exact of_decide_eq_true e20
      · cases h; exact of_decide_eq_true e21
      · cases h; exact of_decide_eq_true e22
      · cases h; exact of_decide_eq_true e23
      · cases h }
section
variable {P : Program} {w : World} {K : PySem.W.Frag} {mg : Str → Option Value} {base : Heap}
theorem all_fv (T : Txt K w mg) (HT : TakesBox m__law_take) {B : Addr → Prop} : ∃ f fd, mg "law" = some (.ref f) ∧ FnOk P w K mg base (L2.CX P w) 16 f fd ["script"] (SpV (cc K B) 1 m_law) ∧ Fun K "law" "law" s_law f fd := by
  have F__law_box : ∀ {B : Addr → Prop}, FvL P w K mg base (cc K B) 1 "_law_box" 1 m__law_box := fv__law_box T
  have F__law_cell : ∀ {B : Addr → Prop}, Fv P w K mg base (cc K B) 1 "_law_cell" 2 m__law_cell := fv__law_cell T 
  have F__law_take : ∀ {B : Addr → Prop}, Fv P w K mg base (cc K B) 1 "_law_take" 2 mTake := (fv__law_take T).take HT
  have F__law_sizes : ∀ {B : Addr → Prop}, Fv P w K mg base (cc K B) 2 "_law_sizes" 4 m__law_sizes := fv__law_sizes T F__law_take
  have F__law_any_line : ∀ {B : Addr → Prop}, Fv P w K mg base (cc K B) 2 "_law_any_line" 4 m__law_any_line := fv__law_any_line T F__law_take
  have F__law_lines : ∀ {B : Addr → Prop}, Fv P w K mg base (cc K B) 3 "_law_lines" 1 m__law_lines := fv__law_lines T F__law_take F__law_sizes F__law_any_line
  have F_is_whole : ∀ {B : Addr → Prop}, Fv P w K mg base (cc K B) 1 "is_whole" 1 m_is_whole := fv_is_whole T 
  have F_is_between : ∀ {B : Addr → Prop}, Fv P w K mg base (cc K B) 2 "is_between" 3 m_is_between := fv_is_between T F_is_whole
  have F_is_list : ∀ {B : Addr → Prop}, Fv P w K mg base (cc K B) 1 "is_list" 1 m_is_list := fv_is_list T 
  have F_is_list_of : ∀ {B : Addr → Prop}, Fv P w K mg base (cc K B) 2 "is_list_of" 3 m_is_list_of := fv_is_list_of T F_is_list
  have F_is_ascending : ∀ {B : Addr → Prop}, Fv P w K mg base (cc K B) 1 "is_ascending" 1 m_is_ascending := fv_is_ascending T 
  have F_is_tuple_of : ∀ {B : Addr → Prop}, Fv P w K mg base (cc K B) 1 "is_tuple_of" 2 m_is_tuple_of := fv_is_tuple_of T 
  have F_is_comings : ∀ {B : Addr → Prop}, Fv P w K mg base (cc K B) 3 "is_comings" 3 m_is_comings := fv_is_comings T F_is_tuple_of F_is_between F_is_ascending
  have F_are_ways : ∀ {B : Addr → Prop}, Fv P w K mg base (cc K B) 4 "are_ways" 2 m_are_ways := fv_are_ways T F_is_list_of F_is_comings
  have F_are_told : ∀ {B : Addr → Prop}, Fv P w K mg base (cc K B) 2 "are_told" 1 m_are_told := fv_are_told T F_is_ascending
  have X_InvalidMarks : ∀ {B : Addr → Prop}, Ec P w K mg base (cc K B) 1 "InvalidMarks" 2 "given" := ec_InvalidMarks T
  have X_InvalidWays : ∀ {B : Addr → Prop}, Ec P w K mg base (cc K B) 1 "InvalidWays" 3 "given" := ec_InvalidWays T
  have N_Line : ∀ {B : Addr → Prop}, Nv P w K mg base (cc K B) 5 "Line" 5 2 m_Line := nv_Line T F_is_between X_InvalidMarks F_are_ways F_are_told X_InvalidWays
  have Q_Line : ∀ {B : Addr → Prop}, EqT P w K mg base (cc K B) 1 5 m_Line_eq := qv_Line T 
  have F__law_same : ∀ {B : Addr → Prop}, Fv P w K mg base (cc K B) 13 "_law_same" 2 r__law_same := fv__law_same T 
  have F__law_is_line : ∀ {B : Addr → Prop}, Fv P w K mg base (cc K B) 14 "_law_is_line" 2 m__law_is_line := fv__law_is_line T F__law_same N_Line Q_Line
  have F__law_due : ∀ {B : Addr → Prop}, Fv P w K mg base (cc K B) 1 "_law_due" 2 m__law_due := fv__law_due T 
  have X_TooMany : ∀ {B : Addr → Prop}, Ec P w K mg base (cc K B) 1 "TooMany" 4 "count" := ec_TooMany T
  have F_check_count : ∀ {B : Addr → Prop}, Fv P w K mg base (cc K B) 3 "check_count" 2 m_check_count := fv_check_count T X_TooMany
  have F_lines_beside : ∀ {B : Addr → Prop}, Fv P w K mg base (cc K B) 7 "lines_beside" 2 m_lines_beside := fv_lines_beside T F_check_count N_Line
  have K_lines_beside_second_first : ∀ {B : Addr → Prop}, FvK P w K mg base (cc K B) 7 "lines_beside" 2 m_lines_beside ["second", "first"] [1, 0] := kv_lines_beside_second_first T F_check_count N_Line
  have F__law_asked : ∀ {B : Addr → Prop}, Fv P w K mg base (cc K B) 8 "_law_asked" 3 m__law_asked := fv__law_asked T F_lines_beside K_lines_beside_second_first
  have F__law_heard : ∀ {B : Addr → Prop}, Fv P w K mg base (cc K B) 2 "_law_heard" 4 m__law_heard := fv__law_heard T F__law_take
  have F__law_bent : ∀ {B : Addr → Prop}, Fv P w K mg base (cc K B) 2 "_law_bent" 4 m__law_bent := fv__law_bent T F__law_take
  have F__law_after : ∀ {B : Addr → Prop}, Fv P w K mg base (cc K B) 1 "_law_after" 4 m__law_after := fv__law_after T 
  have F__law_walked : ∀ {B : Addr → Prop}, Fv P w K mg base (cc K B) 2 "_law_walked" 3 m__law_walked := fv__law_walked T F__law_after
  have F_state_behind : ∀ {B : Addr → Prop}, Fv P w K mg base (cc K B) 3 "state_behind" 2 m_state_behind := fv_state_behind T F_is_list_of F_is_tuple_of F_is_between F_is_whole
  have F_is_heard : ∀ {B : Addr → Prop}, Fv P w K mg base (cc K B) 4 "is_heard" 2 m_is_heard := fv_is_heard T F_state_behind
  have X_InvalidHeard : ∀ {B : Addr → Prop}, Ec P w K mg base (cc K B) 1 "InvalidHeard" 1 "given" := ec_InvalidHeard T
  have F_line_behind : ∀ {B : Addr → Prop}, Fv P w K mg base (cc K B) 4 "line_behind" 2 m_line_behind := fv_line_behind T F_state_behind X_InvalidHeard
  have F__law_behind : ∀ {B : Addr → Prop}, Fv P w K mg base (cc K B) 5 "_law_behind" 2 m__law_behind := fv__law_behind T F_line_behind
  have F__law_heard_right : ∀ {B : Addr → Prop}, Fv P w K mg base (cc K B) 14 "_law_heard_right" 4 m__law_heard_right := fv__law_heard_right T F__law_take F__law_heard F__law_bent F__law_walked F__law_same F_is_heard F__law_behind
  have F__law_right : ∀ {B : Addr → Prop}, Fv P w K mg base (cc K B) 15 "_law_right" 2 m__law_right := fv__law_right T F__law_lines N_Line F__law_due F__law_asked F__law_same F__law_is_line F__law_heard_right
  exact fo_law T F__law_box F__law_cell F__law_right F__law_take
end
end k05

set_option Elab.async false
set_option linter.all false
set_option maxRecDepth 100000
set_option maxHeartbeats 1000000
namespace k05
open PySem PySem.Spec PyProof.Rows L2 VL
theorem take_ok : TakesBox m__law_take := by
  intro a b d k n many K E ha hd hd2 hk hkn hm hm2 hn h
  have e1 : ixN 4 0 = some 0 := rfl
  have e2 : ixN 4 1 = some 1 := rfl
  have e3 : ixN 4 2 = some 2 := rfl
  have e4 : ixN 4 3 = some 3 := rfl
  unfold m__law_take
  rw [fnV_eq rfl]
  by_cases hb : b = true ∧ 0 < a
  · obtain ⟨rfl, hb⟩ := hb
    have q := h (a / many) true d k (a % many) (Int.ediv_nonneg ha (by omega)) hd hd2 hk (by omega) (Int.emod_nonneg _ (by omega)) (Int.emod_lt_of_pos _ hm)
    simp [b__law_take, ownAt, SV.own, pIx, atI, e1, e2, e3, e4, truth, pGt, mod_ok hm, pInt, fdiv_ok hm hm2, hb, outs, q]
  · have m1 : pMul (.int 15486209) (.int (k + 1)) = some (.int (15486209 * (k + 1))) := mul_ok (by decide) (by omega)
    have p1 : pPow (.int (d + 15486209 * (k + 1) + 179424973)) (.int 5) = some (.int ((d + 15486209 * (k + 1) + 179424973) ^ 5)) := pow_ok (j := 5) (by decide) (by omega)
    obtain ⟨x, hx⟩ : ∃ x : Int, x = (d + 15486209 * (k + 1) + 179424973) ^ 5 := ⟨_, rfl⟩
    rw [← hx] at p1
    have o1 : pMod (.int x) (.int 2147483647) = some (.int (x % 2147483647)) := mod_ok (by decide)
    obtain ⟨y, hy⟩ : ∃ y : Int, y = x % 2147483647 := ⟨_, rfl⟩
    have y0 : 0 ≤ y ∧ y < 2147483647 := by omega
    rw [← hy] at o1
    have m2 : pMul (.int y) (.int 48271) = some (.int (y * 48271)) := mul_ok (by omega) (by decide)
    have m3 : pMul (.int 104933) (.int (k + 1)) = some (.int (104933 * (k + 1))) := mul_ok (by decide) (by omega)
    have p2 : pPow (.int (y * 48271 + 104933 * (k + 1))) (.int 3) = some (.int ((y * 48271 + 104933 * (k + 1)) ^ 3)) := pow_ok (j := 3) (by decide) (by omega)
    obtain ⟨z, hz⟩ : ∃ z : Int, z = (y * 48271 + 104933 * (k + 1)) ^ 3 := ⟨_, rfl⟩
    rw [← hz] at p2
    have o2 : pMod (.int z) (.int 2147483587) = some (.int (z % 2147483587)) := mod_ok (by decide)
    have o3 : pFdiv (.int (z % 2147483587)) (.int 64) = some (.int (z % 2147483587 / 64)) := fdiv_ok (by decide) (by decide)
    have q := h a b d (k + 1) (z % 2147483587 / 64 % many) ha hd hd2 (by omega) (by omega) (Int.emod_nonneg _ (by omega)) (Int.emod_lt_of_pos _ hm)
    have hb' : b = true → ¬ 0 < a := fun h1 h2 => hb ⟨h1, h2⟩
    cases b with
    | false => simp [b__law_take, ownAt, SV.own, pIx, atI, e1, e2, e3, e4, truth, pAdd, m1, p1, pInt, o1, m2, m3, p2, o2, o3, mod_ok hm, outs, q]
    | true => simp [b__law_take, ownAt, SV.own, pIx, atI, e1, e2, e3, e4, truth, pGt, hb' rfl, pAdd, m1, p1, pInt, o1, m2, m3, p2, o2, o3, mod_ok hm, outs, q]
theorem cell_val (ns : List Int) (k : Nat) (hk : k < 1000) : ∃ c : Int, m__law_cell [.fz (.scr ns), .fz (.int k)] = .ret (.int c, [.un, .un]) := by
  unfold m__law_cell
  rw [fnV_eq rfl]
  have hm : pMul (.int 7039) (.int k) = some (.int (7039 * (k : Int))) := mul_ok (by decide) (by omega)
  have hs : pSum (.lst none ((cutP ns none (some 1)).map PV.int)) = some (.int (cutP ns none (some 1)).sum) := by
    show (intsOf _).map _ = _
    rw [intsOf_map]
    rfl
  have ho : pMod (.int (cutP ns none (some 1)).sum) (.int 1000033) = some (.int ((cutP ns none (some 1)).sum % 1000033)) := mod_ok (by decide)
  by_cases h : (k : Int) < ns.length
  · have hk2 : k < ns.length := by omega
    have e : pIx (.scr ns) (.int k) = some (.int ns[k]) := by
      show (atI ns (k : Int)).map PV.int = _
      rw [atI_nat' (List.getElem?_eq_getElem hk2)]
      rfl
    exact ⟨ns[k], by simp [b__law_cell, pLt, pLtT, pLen, h, e, outs, SV.own]⟩
  · exact ⟨_, by simp [b__law_cell, pLt, pLtT, pLen, h, hm, pSl, hs, pInt, ho, pAdd, outs, SV.own]; rfl⟩
theorem box_val (c : Int) : ∃ (a d : Int) (b : Bool), m__law_box [.int c] = .ret [.int a, .bl b, .int d, .int 0] ∧ 0 ≤ a ∧ 0 ≤ d ∧ d < 2147483629 := by
  obtain ⟨a, ha⟩ : ∃ a : Int, a = if c < 0 then -c else c := ⟨_, rfl⟩
  have h0 : 0 ≤ a := by rw [ha]; split <;> omega
  have e1 : pAbs (.int c) = some (.int a) := by rw [ha]; rfl
  have e2 : pPow (.int 10) (.int 18) = some (.int (10 ^ 18)) := pow_ok (j := 18) (by decide) (by decide)
  obtain ⟨g, hg⟩ : ∃ g : Int, g = 10 ^ 18 := ⟨_, rfl⟩
  rw [← hg] at e2
  have e3 : pMod (.int a) (.int 2147483629) = some (.int (a % 2147483629)) := mod_ok (by decide)
  refine ⟨a, a % 2147483629, decide (g ≤ a), ?_, h0, by omega, by omega⟩
  simp [m__law_box, fnL, b__law_box, fzs, e1, e2, e3, pGe, pInt]
theorem box_step {ρ : Env'} {ns : List Int} {k : Nat} (h0 : ρ[0]? = some (.fz (.scr ns))) (h1 : ρ[1]? = some (.fz (.int k))) (hk : k < 1000) :
    sBox 2 (lCall m__law_box (aCons (eCall m__law_cell (aCons (eVar 0) (aCons (eVar 1) aNil))) aNil)) ρ = .ret (.nx (ρ.set 2 (.bx 0))) := by
  obtain ⟨c, hc⟩ := cell_val ns k hk
  obtain ⟨a, d, b, hb, b0, b1, b2⟩ := box_val c
  unfold sBox lCall
  simp [h0, h1, fzs, hc, hb, b0, b1, b2]
theorem same_eq : ∀ n, m__law_same n = mSame n
  | 0 => rfl
  | n + 1 => by
    show fnV 3 noPin (b__law_same (m__law_same n)) = fnV 3 noPin (bSame (mSame n))
    rw [same_eq n]
    rfl
theorem same_run {a b : PV} (h : Sm 12 a b) : r__law_same [.fz a, .fz b] = .ret (.bl true, [.un, .un]) := by
  show m__law_same 12 _ = _
  rw [same_eq]
  exact same_ok 12 a b h
end k05

set_option Elab.async false
set_option linter.all false
set_option maxRecDepth 100000
set_option maxHeartbeats 1000000
namespace k05
open PySem PySem.Spec PyProof.Rows L2 VL
/-! ### lines as trees -/
abbrev Cell := List (Nat × Nat)
def pr (p : Nat × Nat) : PV := .tup [.int p.1, .int p.2]
def cv (c : Cell) : PV := .tup (c.map pr)
/-- a list, or a tuple -/
def sq (b : Bool) (xs : List PV) : PV := if b = true then .tup xs else .lst none xs
def wq (b : Bool) (ws : List (List Cell)) : PV := sq b (ws.map fun r => sq b (r.map cv))
structure CellOk (m n : Nat) (c : Cell) : Prop where
  ne : c ≠ []
  len : c.length ≤ 8
  asc : c.Pairwise fun p q => p.1 < q.1
  lt : ∀ p ∈ c, p.1 < m ∧ p.2 < n
structure Ok (m s : Nat) (ws : List (List Cell)) : Prop where
  m1 : 1 ≤ m
  m8 : m ≤ 8
  n1 : 1 ≤ ws.length
  n8 : ws.length ≤ 8
  s1 : 1 ≤ s
  s6 : s ≤ 6
  row : ∀ r ∈ ws, r.length = s
  cell : ∀ r ∈ ws, ∀ c ∈ r, CellOk m ws.length c
@[simp] theorem sq_items (b : Bool) (xs : List PV) : items (sq b xs) = some xs := by cases b <;> rfl
@[simp] theorem sq_len (b : Bool) (xs : List PV) : pLen (sq b xs) = some (.int xs.length) := by cases b <;> rfl
@[simp] theorem sq_ix (b : Bool) (xs : List PV) (i : Int) : pIx (sq b xs) (.int i) = atI xs i := by cases b <;> rfl
@[simp] theorem sq_tup (b : Bool) (xs : List PV) : pTuple (sq b xs) = some (.tup xs) := by cases b <;> rfl
theorem whole_i (i : Int) : m_is_whole [.fz (.int i)] = .ret (.bl true, [.un]) := by
  unfold m_is_whole
  rw [fnV_eq rfl]
  simp [b_is_whole, pIsi, isT, tyN, outs, SV.own]
theorem btw_i (i lo hi : Int) : m_is_between [.fz (.int i), .fz (.int lo), .fz (.int hi)] = .ret (.bl (decide (lo ≤ i) && decide (i ≤ hi)), [.un, .un, .un]) := by
  unfold m_is_between
  rw [fnV_eq rfl]
  by_cases a : lo ≤ i <;> by_cases b : i ≤ hi <;> simp [b_is_between, fzs, whole_i, eChain, pLe, a, b, outs, SV.own]
theorem tup_n (xs : List PV) (n : Nat) : m_is_tuple_of [.fz (.tup xs), .fz (.int n)] = .ret (.bl (decide (xs.length = n)), [.un, .un]) := by
  unfold m_is_tuple_of
  rw [fnV_eq rfl]
  have e2 : ((xs.length : Int) = n) ↔ (xs.length = n) := by omega
  simp [b_is_tuple_of, pIsi, isT, tyN, outs, SV.own, pLen, pEq_int, e2]
theorem list_q (b : Bool) (xs : List PV) : m_is_list [.fz (sq b xs)] = .ret (.bl true, [.un]) := by
  unfold m_is_list
  rw [fnV_eq rfl]
  cases b <;> simp [sq, b_is_list, pIsiT, anyT, isT, tyN, outs, SV.own]
theorem list_of_q (b : Bool) (xs : List PV) (lo hi : Int) (h1 : lo ≤ xs.length) (h2 : (xs.length : Int) ≤ hi) : m_is_list_of [.fz (sq b xs), .fz (.int lo), .fz (.int hi)] = .ret (.bl true, [.un, .un, .un]) := by
  unfold m_is_list_of
  rw [fnV_eq rfl]
  simp [b_is_list_of, fzs, list_q, eChain, pLe, h1, h2, outs, SV.own]
theorem asc_q (b : Bool) (xs : List PV) (hz : xs.length ≤ 1000) (h : ∀ (k : Nat) (x y : PV), xs[k]? = some x → xs[k + 1]? = some y → pLtT x y = some (.bl true)) : m_is_ascending [.fz (sq b xs)] = .ret (.bl true, [.un]) := by
  unfold m_is_ascending
  rw [fnV_eq rfl]
  have e : lLc [1] (iRng (eOp2 pSub (eOp1 pLen (eVar 0)) (eC (.int 1)))) (gN 1) (gYes) (eOp2 pLtT (eOp2 pIx (eVar 0) (eVar 1)) (eOp2 pIx (eVar 0) (eOp2 pAdd (eVar 1) (eC (.int 1))))) [SV.fz (sq b xs), .un] =
      .ret (((List.range (xs.length - 1)).map fun (k : Nat) => PV.int k).map fun _ => .bl true, [SV.fz (sq b xs), .un]) := by
    refine lLc_map _ ?_ ?_ rfl fun x hx => ?_
    · simp [pSub, iRange_sub (show xs.length ≤ 1000000 by omega)]
    · rw [List.length_map, List.length_range]; exact sl_le (by omega)
    · obtain ⟨k, hk, rfl⟩ := mem_range_int hx
      have l1 : k < xs.length := by omega
      have l2 : k + 1 < xs.length := by omega
      have a1 : atI xs (k : Int) = some xs[k] := atI_nat' (List.getElem?_eq_getElem l1)
      have a2 : atI xs ((k : Int) + 1) = some xs[k + 1] := by
        have := atI_nat' (xs := xs) (k := k + 1) (List.getElem?_eq_getElem l2)
        rwa [Int.natCast_add, Int.natCast_one] at this
      simp [a1, a2, pAdd, h k _ _ (List.getElem?_eq_getElem l1) (List.getElem?_eq_getElem l2)]
  obtain ⟨bs, e, q⟩ := all_true e
  simp [b_is_ascending, e, q, outs, SV.own]
theorem pr_lt {p q : Nat × Nat} (h : p.1 < q.1) : pLtT (pr p) (pr q) = some (.bl true) := by
  have h' : (p.1 : Int) < q.1 := by omega
  simp [pr, pLtT, intsOf, HT.lexLt, h']
  omega
theorem asc_pairs {c : Cell} (h : c.Pairwise fun p q => p.1 < q.1) {k : Nat} {p q : Nat × Nat} (hp : c[k]? = some p) (hq : c[k + 1]? = some q) : p.1 < q.1 := by
  obtain ⟨l1, rfl⟩ := List.getElem?_eq_some_iff.mp hp
  obtain ⟨l2, rfl⟩ := List.getElem?_eq_some_iff.mp hq
  exact List.pairwise_iff_getElem.mp h k (k + 1) l1 l2 (Nat.lt_succ_self k)
theorem comings_ok {m n : Nat} {c : Cell} (h : CellOk m n c) : m_is_comings [.fz (cv c), .fz (.int m), .fz (.int n)] = .ret (.bl true, [.un, .un, .un]) := by
  unfold m_is_comings
  rw [fnV_eq rfl]
  have ln : c.length ≠ 0 := fun e => h.ne (List.length_eq_zero_iff.mp e)
  have ln' : ¬ ((c.length : Int) = 0) := by omega
  have e1 : lLc [5] (iSeq (eVar 0)) (gN 5) (gYes) (eCall m_is_tuple_of (aCons (eVar 5) (aCons (eC (.int 2)) (aNil)))) [SV.fz (cv c), .fz (.int m), .fz (.int n), .un, .un, .un] =
      .ret ((c.map pr).map fun _ => .bl true, [SV.fz (cv c), .fz (.int m), .fz (.int n), .un, .un, .un]) := by
    refine lLc_map _ (by simp [cv, items]) (by rw [List.length_map]; exact sl_le (by have := h.len; omega)) rfl fun x hx => ?_
    obtain ⟨p, _, rfl⟩ := List.mem_map.mp hx
    have t := tup_n [.int p.1, .int p.2] 2
    simp [fzs, pr, show ((2 : Nat) : Int) = 2 from rfl] at t ⊢
    simp [t]
  have e2 : lLc [3, 4] (iSeq (eVar 0)) (gT [3, 4]) (gYes) (eAnd (eCall m_is_between (aCons (eVar 3) (aCons (eC (.int 0)) (aCons (eOp2 pSub (eVar 1) (eC (.int 1))) (aNil))))) (eCall m_is_between (aCons (eVar 4) (aCons (eC (.int 0)) (aCons (eOp2 pSub (eVar 2) (eC (.int 1))) (aNil)))))) [SV.fz (cv c), .fz (.int m), .fz (.int n), .un, .un, .un] =
      .ret (((c.map pr).filter fun _ => true).map fun _ => .bl true, [SV.fz (cv c), .fz (.int m), .fz (.int n), .un, .un, .un]) := by
    refine lLc_gen (fun ρ => ∃ a b, ρ = [SV.fz (cv c), .fz (.int m), .fz (.int n), a, b, .un]) _ _ (by simp [cv, items]) (by rw [List.length_map]; exact sl_le (by have := h.len; omega)) rfl ⟨_, _, rfl⟩ (fun x hx ρ1 ⟨a, b, e⟩ => ?_) fun ρ1 ⟨a, b, e⟩ => by rw [e]; rfl
    obtain ⟨p, hp, rfl⟩ := List.mem_map.mp hx
    obtain ⟨q1, q2⟩ := h.lt p hp
    subst e
    refine ⟨[SV.fz (cv c), .fz (.int m), .fz (.int n), .fz (.int p.1), .fz (.int p.2), .un], rfl, ⟨_, _, rfl⟩, rfl, fun _ => ?_⟩
    have b1 : (p.1 : Int) ≤ (m : Int) - 1 := by omega
    have b2 : (p.2 : Int) ≤ (n : Int) - 1 := by omega
    simp [fzs, pSub, btw_i, b1, b2]
  have e3 : m_is_ascending [.fz (cv c)] = .ret (.bl true, [.un]) := asc_q true (c.map pr) (by rw [List.length_map]; have := h.len; omega) fun k x y hx hy => by
    rw [List.getElem?_map, Option.map_eq_some_iff] at hx hy
    obtain ⟨p, hp, rfl⟩ := hx
    obtain ⟨q, hq, rfl⟩ := hy
    exact pr_lt (asc_pairs h.asc hp hq)
  have e0 : pIsi "tuple" (cv c) = some (.bl true) := by simp [cv, pIsi, isT, tyN]
  have e4 : pLen (cv c) = some (.int c.length) := by simp [cv, pLen]
  obtain ⟨bs1, e1, q1⟩ := all_true e1
  obtain ⟨bs2, e2, q2⟩ := all_true e2
  simp [b_is_comings, e0, truth, e4, pEq_int, ln', h.ne, e1, q1, e2, q2, fzs, e3, outs, SV.own]
end k05

set_option Elab.async false
set_option linter.all false
set_option maxRecDepth 100000
set_option maxHeartbeats 1000000
namespace k05
open PySem PySem.Spec PyProof.Rows L2 VL
theorem atI0 {α : Type} (x : α) (xs : List α) : atI (x :: xs) (0 : Int) = some x := atI_nat' (k := 0) rfl
abbrev wl (b : Bool) (ws : List (List Cell)) : List PV := ws.map fun r => sq b (r.map cv)
theorem row_cells {m s : Nat} {ws : List (List Cell)} (o : Ok m s ws) {r : List Cell} (h : r ∈ ws) : r.length ≤ 6 := by rw [o.row r h]; exact o.s6
theorem ways_ok {m s : Nat} {ws : List (List Cell)} (b : Bool) (o : Ok m s ws) : m_are_ways [.fz (wq b ws), .fz (.int m)] = .ret (.bl true, [.un, .un]) := by
  unfold m_are_ways
  rw [fnV_eq rfl]
  obtain ⟨r0, rest, ew⟩ : ∃ r0 rest, ws = r0 :: rest := by
    cases e : ws with
    | nil => have := o.n1; rw [e] at this; simp at this
    | cons x xs => exact ⟨x, xs, rfl⟩
  have l0 : r0.length = s := o.row r0 (by rw [ew]; exact List.mem_cons_self)
  have n8 := o.n8
  have wlen : (wl b ws).length = ws.length := List.length_map _
  have a1 : m_is_list_of [.fz (wq b ws), .fz (.int 1), .fz (.int 8)] = .ret (.bl true, [.un, .un, .un]) := list_of_q b _ 1 8 (by rw [wlen]; have := o.n1; omega) (by rw [wlen]; omega)
  have e1 : lLc [2] (iSeq (eVar 0)) (gN 2) (gYes) (eCall m_is_list_of (aCons (eVar 2) (aCons (eC (.int 1)) (aCons (eC (.int 6)) (aNil))))) [SV.fz (wq b ws), .fz (.int m), .un, .un] =
      .ret ((wl b ws).map fun _ => .bl true, [SV.fz (wq b ws), .fz (.int m), .un, .un]) := by
    refine lLc_map _ (by simp [wq]) (by rw [wlen]; exact sl_le (by omega)) rfl fun x hx => ?_
    obtain ⟨r, hr, rfl⟩ := List.mem_map.mp hx
    have t := list_of_q b (r.map cv) 1 6 (by rw [List.length_map, o.row r hr]; have := o.s1; omega) (by rw [List.length_map, o.row r hr]; have := o.s6; omega)
    simp [fzs, t]
  have e2 : lLc [2] (iSeq (eVar 0)) (gN 2) (gYes) (eOp2 pEq (eOp1 pLen (eVar 2)) (eOp1 pLen (eOp2 pIx (eVar 0) (eC (.int 0))))) [SV.fz (wq b ws), .fz (.int m), .un, .un] =
      .ret ((wl b ws).map fun _ => .bl true, [SV.fz (wq b ws), .fz (.int m), .un, .un]) := by
    refine lLc_map _ (by simp [wq]) (by rw [wlen]; exact sl_le (by omega)) rfl fun x hx => ?_
    obtain ⟨r, hr, rfl⟩ := List.mem_map.mp hx
    have q := o.row r hr
    have q0 : pIx (wq b ws) (.int 0) = some (sq b (r0.map cv)) := by rw [wq, ew, sq_ix]; exact atI0 _ _
    simp [q0, pEq_int, q, l0]
  have e3 : lLc2 [2, 3] [3] (iSeq (eVar 0)) (gN 2) (gYes) (iSeq (eVar 2)) (gN 3) (gYes) (eCall m_is_comings (aCons (eVar 3) (aCons (eVar 1) (aCons (eOp1 pLen (eVar 0)) (aNil))))) [SV.fz (wq b ws), .fz (.int m), .un, .un] =
      .ret ((wl b ws).flatMap fun x => ((items x).getD []).map fun _ => .bl true, [SV.fz (wq b ws), .fz (.int m), .un, .un]) := by
    refine lLc2_gen (fun ρ => ∃ u v, ρ = [SV.fz (wq b ws), .fz (.int m), u, v]) (fun x => (items x).getD []) (fun _ _ => .bl true) (by simp [wq]) (by rw [wlen]; omega) rfl ⟨_, _, rfl⟩ (fun x hx ρ1 ⟨u, v, e⟩ => ?_) fun ρ1 ⟨u, v, e⟩ => by rw [e]; rfl
    obtain ⟨r, hr, rfl⟩ := List.mem_map.mp hx
    subst e
    have l6 := row_cells o hr
    refine ⟨[SV.fz (wq b ws), .fz (.int m), .fz (sq b (r.map cv)), .un], rfl, rfl, by simp, by simp; omega, fun ρ => ∃ v, ρ = [SV.fz (wq b ws), .fz (.int m), .fz (sq b (r.map cv)), v], ⟨_, rfl⟩, fun ρ3 ⟨v, e⟩ => ⟨_, _, e⟩, fun y hy ρ3 ⟨v, e⟩ => ?_⟩
    rw [sq_items] at hy
    obtain ⟨c, hc, rfl⟩ := List.mem_map.mp hy
    subst e
    refine ⟨[SV.fz (wq b ws), .fz (.int m), .fz (sq b (r.map cv)), .fz (cv c)], rfl, ⟨_, rfl⟩, rfl, ?_⟩
    have t := comings_ok (o.cell r hr c hc)
    simp [fzs, wq, t]
  have e3' : ∃ bs, lLc2 [2, 3] [3] (iSeq (eVar 0)) (gN 2) (gYes) (iSeq (eVar 2)) (gN 3) (gYes) (eCall m_is_comings (aCons (eVar 3) (aCons (eVar 1) (aCons (eOp1 pLen (eVar 0)) (aNil))))) [SV.fz (wq b ws), .fz (.int m), .un, .un] = .ret (bs, [SV.fz (wq b ws), .fz (.int m), .un, .un]) ∧ pAll (.lst none bs) = some (.bl true) := by
    refine ⟨_, e3, ?_⟩
    rw [← List.map_flatMap]
    exact pAll_true _
  obtain ⟨bs1, e1, q1⟩ := all_true e1
  obtain ⟨bs2, e2, q2⟩ := all_true e2
  obtain ⟨bs3, e3, q3⟩ := e3'
  simp [b_are_ways, fzs, a1, truth, e1, q1, e2, q2, e3, q3, outs, SV.own]
theorem told_ok {m s : Nat} {ws : List (List Cell)} (b : Bool) (o : Ok m s ws) : m_are_told [.fz (wq b ws)] = .ret (.bl true, [.un]) := by
  unfold m_are_told
  rw [fnV_eq rfl]
  have n8 := o.n8
  have wlen : (wl b ws).length = ws.length := List.length_map _
  have e3 : lLc2 [1, 2] [2] (iSeq (eVar 0)) (gN 1) (gYes) (iSeq (eVar 1)) (gN 2) (gYes) (eCall m_is_ascending (aCons (eLst (lLc [3, 4] (iSeq (eVar 2)) (gT [3, 4]) (gYes) (eVar 3))) (aNil))) [SV.fz (wq b ws), .un, .un, .un, .un] =
      .ret ((wl b ws).flatMap fun x => ((items x).getD []).map fun _ => .bl true, [SV.fz (wq b ws), .un, .un, .un, .un]) := by
    refine lLc2_gen (fun ρ => ∃ u v, ρ = [SV.fz (wq b ws), u, v, .un, .un]) (fun x => (items x).getD []) (fun _ _ => .bl true) (by simp [wq]) (by rw [wlen]; omega) rfl ⟨_, _, rfl⟩ (fun x hx ρ1 ⟨u, v, e⟩ => ?_) fun ρ1 ⟨u, v, e⟩ => by rw [e]; rfl
    obtain ⟨r, hr, rfl⟩ := List.mem_map.mp hx
    subst e
    have l6 := row_cells o hr
    refine ⟨[SV.fz (wq b ws), .fz (sq b (r.map cv)), .un, .un, .un], rfl, rfl, by simp, by simp; omega, fun ρ => ∃ v, ρ = [SV.fz (wq b ws), .fz (sq b (r.map cv)), v, .un, .un], ⟨_, rfl⟩, fun ρ3 ⟨v, e⟩ => ⟨_, _, e⟩, fun y hy ρ3 ⟨v, e⟩ => ?_⟩
    rw [sq_items] at hy
    obtain ⟨c, hc, rfl⟩ := List.mem_map.mp hy
    subst e
    refine ⟨[SV.fz (wq b ws), .fz (sq b (r.map cv)), .fz (cv c), .un, .un], rfl, ⟨_, rfl⟩, rfl, ?_⟩
    have co := o.cell r hr c hc
    have e4 : lLc [3, 4] (iSeq (eVar 2)) (gT [3, 4]) (gYes) (eVar 3) [SV.fz (wq b ws), .fz (sq b (r.map cv)), .fz (cv c), .un, .un] =
        .ret (((c.map pr).filter fun _ => true).map fun x => (pIx x (.int 0)).getD .non, [SV.fz (wq b ws), .fz (sq b (r.map cv)), .fz (cv c), .un, .un]) := by
      refine lLc_gen (fun ρ => ∃ u v, ρ = [SV.fz (wq b ws), .fz (sq b (r.map cv)), .fz (cv c), u, v]) _ _ (by simp [cv, items]) (by rw [List.length_map]; exact sl_le (by have := co.len; omega)) rfl ⟨_, _, rfl⟩ (fun x hx ρ1 ⟨u, v, e⟩ => ?_) fun ρ1 ⟨u, v, e⟩ => by rw [e]; rfl
      obtain ⟨p, hp, rfl⟩ := List.mem_map.mp hx
      subst e
      refine ⟨[SV.fz (wq b ws), .fz (sq b (r.map cv)), .fz (cv c), .fz (.int p.1), .fz (.int p.2)], rfl, ⟨_, _, rfl⟩, rfl, fun _ => ?_⟩
      simp [pr, pIx, atI0]
    have e5 : (((c.map pr).filter fun _ => true).map fun x => (pIx x (.int 0)).getD .non) = c.map fun p => PV.int p.1 := by
      rw [filter_all fun _ _ => rfl, List.map_map]
      exact List.map_congr_left fun p _ => by simp [pr, pIx, atI0]
    rw [e5] at e4
    have t := asc_q false (c.map fun p => PV.int p.1) (by rw [List.length_map]; have := co.len; omega) fun k x y hx hy => by
      rw [List.getElem?_map, Option.map_eq_some_iff] at hx hy
      obtain ⟨p, hp, rfl⟩ := hx
      obtain ⟨q, hq, rfl⟩ := hy
      have := asc_pairs co.asc hp hq
      have h' : (p.1 : Int) < q.1 := by omega
      simp [pLtT, h']
    simp only [sq, Bool.false_eq_true, if_false] at t
    simp [fzs, e4, t]
  have e3' : ∃ bs, lLc2 [1, 2] [2] (iSeq (eVar 0)) (gN 1) (gYes) (iSeq (eVar 1)) (gN 2) (gYes) (eCall m_is_ascending (aCons (eLst (lLc [3, 4] (iSeq (eVar 2)) (gT [3, 4]) (gYes) (eVar 3))) (aNil))) [SV.fz (wq b ws), .un, .un, .un, .un] = .ret (bs, [SV.fz (wq b ws), .un, .un, .un, .un]) ∧ pAll (.lst none bs) = some (.bl true) := by
    refine ⟨_, e3, ?_⟩
    rw [← List.map_flatMap]
    exact pAll_true _
  obtain ⟨bs3, e3, q3⟩ := e3'
  simp [b_are_told, e3, q3, outs, SV.own]
/-! ### a line made -/
def wv (ws : List (List Cell)) : PV := wq true ws
def fv (m s : Nat) (ws : List (List Cell)) : List (Str × PV) := [("marks", .int m), ("ways", wv ws), ("signs", .int s)]
def ov (m s : Nat) (ws : List (List Cell)) : PV := .ins 5 (fv m s ws)
theorem line_ok {m s : Nat} {ws : List (List Cell)} (b : Bool) (o : Ok m s ws) : m_Line [.int m, wq b ws] = .ret (fv m s ws) := by
  have b1 : (1 : Int) ≤ (m : Int) := by have := o.m1; omega
  have b2 : (m : Int) ≤ 8 := by have := o.m8; omega
  have a2 := ways_ok b o
  have a3 := told_ok b o
  have wlen : (wl b ws).length = ws.length := List.length_map _
  have e1 : lLc [3] (iSeq (eVar 2)) (gN 3) (gYes) (eOp1 pTuple (eVar 3)) [SV.un, .fz (.int m), .fz (wq b ws), .un] = .ret ((wl b ws).map fun x => (pTuple x).getD .non, [SV.un, .fz (.int m), .fz (wq b ws), .un]) := by
    refine lLc_map _ (by simp [wq]) (by rw [wlen]; have := o.n8; exact sl_le (by omega)) rfl fun x hx => ?_
    obtain ⟨r, hr, rfl⟩ := List.mem_map.mp hx
    simp
  have e2 : ((wl b ws).map fun x => (pTuple x).getD .non) = ws.map fun r => sq true (r.map cv) := by
    rw [List.map_map]
    exact List.map_congr_left fun r _ => by cases b <;> rfl
  rw [e2] at e1
  have e3 : ∃ r0 : List Cell, pIx (wv ws) (.int 0) = some (sq true (r0.map cv)) ∧ r0.length = s := by
    cases e : ws with
    | nil => have := o.n1; rw [e] at this; simp at this
    | cons x xs => exact ⟨x, by unfold wv wq; rw [sq_ix]; exact atI0 _ _, o.row x (by rw [e]; exact List.mem_cons_self)⟩
  obtain ⟨r0, e3, e4⟩ := e3
  have e5 : pTuple (.lst none (ws.map fun r => sq true (r.map cv))) = some (wv ws) := rfl
  have l1 : (PySem.Str.ofString "ways" == PySem.Str.ofString "marks") = false := by decide +kernel
  have l2 : (PySem.Str.ofString "signs" == PySem.Str.ofString "marks") = false := by decide +kernel
  have l3 : (PySem.Str.ofString "signs" == PySem.Str.ofString "ways") = false := by decide +kernel
  simp [m_Line, iniV, mi_Line, iCons, iEnd, runF, nown, SV.own, fzs, btw_i, b1, b2, truth, a2, a3, e1, e5, eFld, fldP, flds_Line, List.lookup, e3, e4, l1, l2, l3, noIns, fv]
end k05

set_option Elab.async false
set_option linter.all false
set_option maxRecDepth 100000
set_option maxHeartbeats 1000000
namespace k05
open PySem PySem.Spec PyProof.Rows L2 VL
/-! ### fields -/
@[simp] theorem fld_marks (m s : Nat) (ws : List (List Cell)) : fldP flds_Line (PySem.Str.ofString "marks") 5 (ov m s ws) = some (.int m) := by
  have l0 : (PySem.Str.ofString "marks") ∈ flds_Line := by decide +kernel
  unfold fldP ov fv
  dsimp only
  rw [if_pos ⟨rfl, l0⟩]
  rfl
@[simp] theorem fld_ways (m s : Nat) (ws : List (List Cell)) : fldP flds_Line (PySem.Str.ofString "ways") 5 (ov m s ws) = some (wv ws) := by
  have l0 : (PySem.Str.ofString "ways") ∈ flds_Line := by decide +kernel
  have l1 : (PySem.Str.ofString "ways" == PySem.Str.ofString "marks") = false := by decide +kernel
  unfold fldP ov fv
  dsimp only
  rw [if_pos ⟨rfl, l0⟩, List.lookup, l1]
  rfl
@[simp] theorem fld_signs (m s : Nat) (ws : List (List Cell)) : fldP flds_Line (PySem.Str.ofString "signs") 5 (ov m s ws) = some (.int s) := by
  have l0 : (PySem.Str.ofString "signs") ∈ flds_Line := by decide +kernel
  have l1 : (PySem.Str.ofString "signs" == PySem.Str.ofString "marks") = false := by decide +kernel
  have l2 : (PySem.Str.ofString "signs" == PySem.Str.ofString "ways") = false := by decide +kernel
  unfold fldP ov fv
  dsimp only
  rw [if_pos ⟨rfl, l0⟩, List.lookup, l1, List.lookup, l2]
  rfl
@[simp] theorem isC_ov (m s : Nat) (ws : List (List Cell)) : pIsC 5 (ov m s ws) = some (.bl true) := rfl
@[simp] theorem okR_ov (m s : Nat) (ws : List (List Cell)) : okR 5 (ov m s ws) = true := rfl
theorem wv_flat (ws : List (List Cell)) : flatI 60 (wv ws) = true := by
  unfold wv wq sq
  simp only [if_true]
  unfold flatI
  refine flatIs_all fun x hx => ?_
  obtain ⟨r, _, rfl⟩ := List.mem_map.mp hx
  unfold flatI
  refine flatIs_all fun x hx => ?_
  obtain ⟨c, _, rfl⟩ := List.mem_map.mp hx
  unfold cv flatI
  refine flatIs_all fun x hx => ?_
  obtain ⟨p, _, rfl⟩ := List.mem_map.mp hx
  simp [pr, flatI, VL.flatIs]
theorem eq_same (m s : Nat) (ws : List (List Cell)) : m_Line_eq [.fz (ov m s ws), .fz (ov m s ws)] = .ret (.bl true, [.un, .un]) := by
  unfold m_Line_eq
  rw [fnV_eq rfl]
  have e : pEq (wv ws) (wv ws) = some (.bl true) := eq_tup_self (wv_flat ws)
  simp [b_Line_eq, truth, eFld, pEq_int, e, outs, SV.own]
theorem eq_unlike {m m' : Nat} (s s' : Nat) (ws ws' : List (List Cell)) (h : m ≠ m') : m_Line_eq [.fz (ov m s ws), .fz (ov m' s' ws')] = .ret (.bl false, [.un, .un]) := by
  unfold m_Line_eq
  rw [fnV_eq rfl]
  have h' : ¬ ((m : Int) = m') := by omega
  simp [b_Line_eq, truth, eFld, pEq_int, h, h', outs, SV.own]
theorem eq_seven (m s : Nat) (ws : List (List Cell)) : m_Line_eq [.fz (ov m s ws), .fz (.int 7)] = .ret (.bl false, [.un, .un]) := by
  unfold m_Line_eq
  rw [fnV_eq rfl]
  have e : pIsC 5 (.int 7) = some (.bl false) := rfl
  simp [b_Line_eq, truth, e, outs, SV.own]
/-! ### what a line says of a list -/
def lk (c : Cell) (y : Nat) : Option Nat := (c.find? fun p => decide (p.1 = y)).map (·.2)
def cellAt (ws : List (List Cell)) (st sg : Nat) : Cell := ((ws[st]?).bind fun r => r[sg]?).getD []
def goW (ws : List (List Cell)) : Nat → List (Nat × Nat) → Option Nat
  | st, [] => some st
  | st, p :: hs => match lk (cellAt ws st p.1) p.2 with
    | none => none
    | some t => goW ws t hs
def oi : Option Nat → PV
  | none => .non
  | some t => .int t
theorem cell_at {m s : Nat} {ws : List (List Cell)} (o : Ok m s ws) {st sg : Nat} (h1 : st < ws.length) (h2 : sg < s) : CellOk m ws.length (cellAt ws st sg) ∧ ∃ r, ws[st]? = some r ∧ r[sg]? = some (cellAt ws st sg) := by
  have e1 : ws[st]? = some ws[st] := List.getElem?_eq_getElem h1
  have hr : ws[st] ∈ ws := List.getElem_mem h1
  have h3 : sg < (ws[st]).length := by rw [o.row _ hr]; exact h2
  have e2 : (ws[st])[sg]? = some (ws[st])[sg] := List.getElem?_eq_getElem h3
  have e3 : cellAt ws st sg = (ws[st])[sg] := by unfold cellAt; rw [e1]; simp [e2]
  rw [e3]
  exact ⟨o.cell _ hr _ (List.getElem_mem h3), ws[st], e1, e2⟩
theorem ix_wv {m s : Nat} {ws : List (List Cell)} (o : Ok m s ws) {st sg : Nat} (h1 : st < ws.length) (h2 : sg < s) : ∃ v, pIx (wv ws) (.int st) = some v ∧ pIx v (.int sg) = some (cv (cellAt ws st sg)) := by
  obtain ⟨_, r, e1, e2⟩ := cell_at o h1 h2
  refine ⟨sq true (r.map cv), ?_, ?_⟩
  · unfold wv wq
    rw [sq_ix]
    exact atI_nat' (by rw [List.getElem?_map, e1]; rfl)
  · rw [sq_ix]
    exact atI_nat' (by rw [List.getElem?_map, e2]; rfl)
theorem lk_lt {m n : Nat} {c : Cell} (o : CellOk m n c) {y t : Nat} (h : lk c y = some t) : t < n := by
  unfold lk at h
  obtain ⟨p, e, rfl⟩ := Option.map_eq_some_iff.mp h
  exact (o.lt p (List.mem_of_find?_eq_some e)).2
abbrev kvs (c : Cell) : List (Key × PV) := c.map fun p => (.inl (p.1 : Int), .int p.2)
theorem val_kvs (c : Cell) (y : Nat) : valP (kvs c) (.inl (y : Int)) = (lk c y).map fun t => .int t := by
  unfold valP lk kvs
  induction c with
  | nil => rfl
  | cons p c ih =>
    rw [List.map_cons, List.find?_cons, List.find?_cons]
    by_cases e : p.1 = y
    · subst e; simp
    · have e1 : ¬ ((Sum.inl (p.1 : Int) : Key) = .inl (y : Int)) := fun z => e (by have := Sum.inl.inj z; omega)
      simp only [e, e1, decide_false]
      exact ih
def bStep : GS := sSeq (sIf (gOr (gNot (gVal (eCall m_is_tuple_of (aCons (eVar 3) (aCons (eC (.int 2)) (aNil)))))) (gOr (gNot (gVal (eCall m_is_between (aCons (eOp2 pIx (eVar 3) (eC (.int 0))) (aCons (eC (.int 0)) (aCons (eOp2 pSub (eFld flds_Line "signs" 5 (eVar 0)) (eC (.int 1))) (aNil))))))) (gNot (gVal (eCall m_is_whole (aCons (eOp2 pIx (eVar 3) (eC (.int 1))) (aNil))))))) (sRet (eC .non)) (sNil)) (sSeq (sSet 4 (eDc [5, 6] (iSeq (eOp2 pIx (eOp2 pIx (eFld flds_Line "ways" 5 (eVar 0)) (eVar 2)) (eOp2 pIx (eVar 3) (eC (.int 0))))) (gT [5, 6]) gYes (eVar 5) (eVar 6))) (sSeq (sIf (gBl (eOp2 pNotIn (eOp2 pIx (eVar 3) (eC (.int 1))) (eVar 4))) (sRet (eC .non)) (sNil)) (sSet 2 (eOp2 pIx (eVar 4) (eOp2 pIx (eVar 3) (eC (.int 1)))))))
theorem step_ok {m s : Nat} {ws : List (List Cell)} (o : Ok m s ws) {st : Nat} (h1 : st < ws.length) {p : Nat × Nat} (h2 : p.1 < s) (v a4 : SV) (ha : a4.own = false) :
    bStep [.fz (ov m s ws), v, .fz (.int st), .fz (pr p), a4, .un, .un] = match lk (cellAt ws st p.1) p.2 with
      | none => .ret (.rt .non [.fz (ov m s ws), v, .fz (.int st), .fz (pr p), .fz (.dic none (kvs (cellAt ws st p.1))), .un, .un])
      | some t => .ret (.nx [.fz (ov m s ws), v, .fz (.int t), .fz (pr p), .fz (.dic none (kvs (cellAt ws st p.1))), .un, .un]) := by
  obtain ⟨u, x1, x2⟩ := ix_wv o h1 h2
  obtain ⟨co, _⟩ := cell_at o h1 h2
  have i0 : pIx (pr p) (.int 0) = some (.int p.1) := by simp [pr, pIx, atI0]
  have i1 : pIx (pr p) (.int 1) = some (.int p.2) := by unfold pr pIx; exact atI_nat' (k := 1) rfl
  have t1 : m_is_tuple_of [.fz (pr p), .fz (.int 2)] = .ret (.bl true, [.un, .un]) := tup_n [.int p.1, .int p.2] 2
  have b1 : (p.1 : Int) ≤ (s : Int) - 1 := by omega
  generalize hc : cellAt ws st p.1 = c at *
  have d : eDc [5, 6] (iSeq (eOp2 pIx (eOp2 pIx (eFld flds_Line "ways" 5 (eVar 0)) (eVar 2)) (eOp2 pIx (eVar 3) (eC (.int 0))))) (gT [5, 6]) gYes (eVar 5) (eVar 6) [.fz (ov m s ws), v, .fz (.int st), .fz (pr p), a4, .un, .un] =
      .ret (.dic none ((c.map pr).map fun x => (.inl (match x with | .tup [.int a, _] => a | _ => 0), (match x with | .tup [_, b] => b | _ => .non))), [.fz (ov m s ws), v, .fz (.int st), .fz (pr p), a4, .un, .un]) := by
    refine eDc_gen (fun ρ => ∃ a b, ρ = [.fz (ov m s ws), v, .fz (.int st), .fz (pr p), a4, a, b]) _ _ ?_ (by rw [List.length_map]; exact sl_le (by have := co.len; omega)) (by simp [frozenAt, ownAt, SV.own]) ⟨_, _, rfl⟩ ?_ (fun x hx ρ1 ⟨a, b, e⟩ => ?_) fun ρ1 ⟨a, b, e⟩ => by rw [e]; rfl
    · simp [eFld, x1, i0, x2, cv, items]
    · rw [List.pairwise_map]
      exact co.asc.imp fun h z => by have := Sum.inl.inj z; simp [pr] at this; omega
    · obtain ⟨q, hq, rfl⟩ := List.mem_map.mp hx
      subst e
      exact ⟨[.fz (ov m s ws), v, .fz (.int st), .fz (pr p), a4, .fz (.int q.1), .fz (.int q.2)], .int q.1, rfl, ⟨_, _, rfl⟩, rfl, rfl, rfl, rfl⟩
  have d2 : ((c.map pr).map fun x => ((.inl (match x with | .tup [.int a, _] => a | _ => 0), (match x with | .tup [_, b] => b | _ => .non)) : Key × PV)) = kvs c := by
    rw [List.map_map]
    exact List.map_congr_left fun q _ => rfl
  rw [d2] at d
  have vl := val_kvs c p.2
  cases hl : lk c p.2 with
  | none =>
    rw [hl] at vl
    have n1 : pNotIn (.int p.2) (.dic none (kvs c)) = some (.bl true) := by simp [pNotIn, inB, keyP, vl]
    simp [bStep, fzs, t1, truth, i0, i1, eFld, pSub, btw_i, b1, whole_i, d, n1]
  | some t =>
    rw [hl] at vl
    have n1 : pNotIn (.int p.2) (.dic none (kvs c)) = some (.bl false) := by simp [pNotIn, inB, keyP, vl]
    have n2 : pIx (.dic none (kvs c)) (.int p.2) = some (.int t) := by simp [pIx, keyP, vl]
    simp [bStep, fzs, t1, truth, i0, i1, eFld, pSub, btw_i, b1, whole_i, d, n1, n2]
theorem loop_ok {m s : Nat} {ws : List (List Cell)} (o : Ok m s ws) (v : SV) : ∀ (hs : List (Nat × Nat)) (st : Nat) (a3 a4 : SV), a4.own = false → st < ws.length → (∀ p ∈ hs, p.1 < s) →
    ∃ st' a3' a4', forLoop (gN 3) bStep (hs.map pr) [.fz (ov m s ws), v, .fz (.int st), a3, a4, .un, .un] = match goW ws st hs with
      | none => .ret (.rt .non [.fz (ov m s ws), v, st', a3', a4', .un, .un])
      | some t => .ret (.nx [.fz (ov m s ws), v, .fz (.int t), a3', a4', .un, .un])
  | [], st, a3, a4, _, _, _ => ⟨.un, a3, a4, rfl⟩
  | p :: hs, st, a3, a4, ha, h1, h2 => by
    have e := step_ok o h1 (h2 p List.mem_cons_self) v a4 ha
    rw [List.map_cons]
    unfold forLoop goW
    rw [show gN 3 (pr p) [.fz (ov m s ws), v, .fz (.int st), a3, a4, .un, .un] = some [.fz (ov m s ws), v, .fz (.int st), .fz (pr p), a4, .un, .un] from rfl]
    dsimp only
    rw [e]
    cases hl : lk (cellAt ws st p.1) p.2 with
    | none => exact ⟨_, _, _, rfl⟩
    | some t =>
      dsimp only
      rw [Wp.ret_bind]
      exact loop_ok o v hs t _ _ rfl (lk_lt (cell_at o h1 (h2 p List.mem_cons_self)).1 hl) fun q hq => h2 q (List.mem_cons_of_mem _ hq)
theorem behind_eq : m_state_behind = fnV 7 noPin (sSeq (sIf (gNot (gVal (eCall m_is_list_of (aCons (eVar 1) (aCons (eC (.int 0)) (aCons (eC (.int 200)) (aNil))))))) (sRet (eC .non)) (sNil)) (sSeq (sSet 2 (eC (.int 0))) (sSeq (sFor (gN 3) (iSeq (eVar 1)) bStep) (sRet (eVar 2))))) := rfl
theorem behind_ok {m s : Nat} {ws : List (List Cell)} (o : Ok m s ws) (hs : List (Nat × Nat)) (hl : hs.length ≤ 200) (h2 : ∀ p ∈ hs, p.1 < s) : m_state_behind [.fz (ov m s ws), .fz (.lst none (hs.map pr))] = .ret (oi (goW ws 0 hs), [.un, .un]) := by
  rw [behind_eq, fnV_eq rfl]
  have a1 := list_of_q false (hs.map pr) 0 200 (by omega) (by rw [List.length_map]; omega)
  simp only [sq, Bool.false_eq_true, if_false] at a1
  obtain ⟨st', a3', a4', e⟩ := loop_ok o (.fz (.lst none (hs.map pr))) hs 0 .un .un rfl (by have := o.n1; omega) h2
  rw [show ((0 : Nat) : Int) = 0 from rfl] at e
  cases hg : goW ws 0 hs with
  | none =>
    rw [hg] at e
    simp [fzs, a1, truth, items, e, oi, outs, SV.own]
  | some t =>
    rw [hg] at e
    simp [fzs, a1, truth, items, e, oi, outs, SV.own]
theorem heard_ok {m s : Nat} {ws : List (List Cell)} (o : Ok m s ws) (hs : List (Nat × Nat)) (hl : hs.length ≤ 200) (h2 : ∀ p ∈ hs, p.1 < s) : m_is_heard [.fz (ov m s ws), .fz (.lst none (hs.map pr))] = .ret (.bl (goW ws 0 hs).isSome, [.un, .un]) := by
  unfold m_is_heard
  rw [fnV_eq rfl]
  have e := behind_ok o hs hl h2
  cases hg : goW ws 0 hs <;> rw [hg] at e <;> simp [b_is_heard, fzs, e, oi, pIsNot, outs, SV.own]
theorem line_behind_ok {m s : Nat} {ws : List (List Cell)} (o : Ok m s ws) (hs : List (Nat × Nat)) (hl : hs.length ≤ 200) (h2 : ∀ p ∈ hs, p.1 < s) : m_line_behind [.fz (ov m s ws), .fz (.lst none (hs.map pr))] = match goW ws 0 hs with
    | none => .raise (⟨1, [("given", .lst none (hs.map pr))]⟩, [.un, .un])
    | some t => .ret (.int t, [.un, .un]) := by
  unfold m_line_behind
  rw [fnV_eq rfl]
  have e := behind_ok o hs hl h2
  cases hg : goW ws 0 hs <;> rw [hg] at e <;> simp [b_line_behind, fzs, e, oi, pIs, outs, SV.own]
theorem law_behind_ok {m s : Nat} {ws : List (List Cell)} (o : Ok m s ws) (hs : List (Nat × Nat)) (hl : hs.length ≤ 200) (h2 : ∀ p ∈ hs, p.1 < s) : m__law_behind [.fz (ov m s ws), .fz (.lst none (hs.map pr))] = .ret ((match goW ws 0 hs with
    | none => .lst none [.str "heard", .lst none (hs.map pr)]
    | some t => .lst none [.str "told", .int t]), [.un, .un]) := by
  unfold m__law_behind
  rw [fnV_eq rfl]
  have e := line_behind_ok o hs hl h2
  cases hg : goW ws 0 hs with
  | none =>
    rw [hg] at e
    have g : (sRet (eLst (lDisp (aCons (eC (.str "told")) (aCons (eCall m_line_behind (aCons (eVar 0) (aCons (eVar 1) (aNil)))) (aNil)))))) [.fz (ov m s ws), .fz (.lst none (hs.map pr)), .un] = .raise (⟨1, [("given", .lst none (hs.map pr))]⟩, [.fz (ov m s ws), .fz (.lst none (hs.map pr)), .un]) := by simp [fzs, e]
    have q := try_raise (ex := exT) (hs := [⟨1, some 2, .many [.c (.str "heard"), .f "given"]⟩, ⟨0, none, .many [.c (.str "another error")]⟩]) g (v := .lst none [.str "heard", .lst none (hs.map pr)]) (by rfl)
    simp [b__law_behind, q, outs, SV.own]
  | some t =>
    rw [hg] at e
    have g : (sRet (eLst (lDisp (aCons (eC (.str "told")) (aCons (eCall m_line_behind (aCons (eVar 0) (aCons (eVar 1) (aNil)))) (aNil)))))) [.fz (ov m s ws), .fz (.lst none (hs.map pr)), .un] = .ret (.rt (.lst none [.str "told", .int t]) [.fz (ov m s ws), .fz (.lst none (hs.map pr)), .un]) := by simp [fzs, e]
    have q := try_ret (ex := exT) (hs := [⟨1, some 2, .many [.c (.str "heard"), .f "given"]⟩, ⟨0, none, .many [.c (.str "another error")]⟩]) g
    simp [b__law_behind, q, outs, SV.own]
end k05

set_option Elab.async false
set_option linter.all false
set_option maxRecDepth 100000
set_option maxHeartbeats 1000000
namespace k05
open PySem PySem.Spec PyProof.Rows L2 VL
theorem enc_lt {u v n k : Nat} (hu : u < n) (hv : v < k) : u * k + v < n * k := by
  have := Nat.mul_le_mul_right k (show u + 1 ≤ n by omega)
  rw [Nat.succ_mul] at this
  omega
theorem getD_mem {α : Type} {xs : List α} {i : Nat} {d : α} (h : i < xs.length) : xs.getD i d ∈ xs := by
  rw [List.getD_eq_getElem?_getD, List.getElem?_eq_getElem h]
  exact List.getElem_mem h
theorem row_at (b : Bool) (ws : List (List Cell)) {u : Nat} (h : u < ws.length) : pIx (wq b ws) (.int u) = some (sq b ((ws.getD u []).map cv)) := by
  unfold wq
  rw [sq_ix]
  refine atI_nat' ?_
  rw [List.getElem?_map, List.getD_eq_getElem?_getD, List.getElem?_eq_getElem h]
  rfl
theorem ok_cells {m s : Nat} {ws : List (List Cell)} (o : Ok m s ws) {u : Nat} (h : u < ws.length) : (ws.getD u []).length ≤ 8 ∧ ∀ c ∈ ws.getD u [], c.length ≤ 8 := by
  have hm := getD_mem (d := []) h
  exact ⟨by rw [o.row _ hm]; have := o.s6; omega, fun c hc => (o.cell _ hm c hc).len⟩
@[simp] theorem mul_small {a b : Nat} (ha : a ≤ 1000) (hb : b ≤ 1000) : pMul (.int a) (.int b) = some (.int ((a * b : Nat) : Int)) := by
  rw [mul_ok (by omega) (by omega), Int.natCast_mul]
theorem ok_p {m s : Nat} {ws : List (List Cell)} (o : Ok m s ws) {u : Nat} (h : u < ws.length) {c : Cell} (hc : c ∈ ws.getD u []) {p : Nat × Nat} (hp : p ∈ c) : p.2 < ws.length := ((o.cell _ (getD_mem h) c hc).lt p hp).2
theorem ov_eq (m s : Nat) (ws : List (List Cell)) : PV.ins 5 (fv m s ws) = ov m s ws := rfl
def lv (m s : Nat) (ws : List (List Cell)) : PV := .lst none [.int m, .int s, wv ws]
@[simp] theorem lv_0 (m s : Nat) (ws : List (List Cell)) : pIx (lv m s ws) (.int 0) = some (.int m) := by unfold lv pIx; exact atI_nat' (k := 0) rfl
@[simp] theorem lv_1 (m s : Nat) (ws : List (List Cell)) : pIx (lv m s ws) (.int 1) = some (.int s) := by unfold lv pIx; exact atI_nat' (k := 1) rfl
@[simp] theorem lv_2 (m s : Nat) (ws : List (List Cell)) : pIx (lv m s ws) (.int 2) = some (wv ws) := by unfold lv pIx; exact atI_nat' (k := 2) rfl
theorem lv_eq (m s : Nat) (ws : List (List Cell)) : PV.lst none [.int m, .int s, wv ws] = lv m s ws := rfl
theorem sne {x y : PySem.Str} (h : x ≠ y) : pNe (.str x) (.str y) = some (.bl true) := by simp [pNe, eqB, h]
theorem sne_same (x : PySem.Str) : pNe (.str x) (.str x) = some (.bl false) := by simp [pNe, eqB]
theorem seq_same (x : PySem.Str) : pEq (.str x) (.str x) = some (.bl true) := by simp [pEq, eqB]
theorem max_ok (a b : Nat) : pMax2 (.int a) (.int b) = some (.int ((max a b : Nat) : Int)) := by
  unfold pMax2
  dsimp only
  congr 2
  by_cases h : (b : Int) > a
  · rw [if_pos h]; omega
  · rw [if_neg h]; omega
end k05

set_option Elab.async false
set_option linter.all false
set_option maxRecDepth 100000
set_option maxHeartbeats 1000000
namespace k05
open PySem PySem.Spec PyProof.Rows L2 VL
/-! ### a line drawn -/
def bSome : GE := eLst (lDisp (aCons (eCallB mTake 0 (aCons (eVar 2) (aNil))) (aCons (eCallB mTake 0 (aCons (eOp2 pMul (eC (.int 2)) (eVar 2)) (aNil))) (aCons (eCallB mTake 0 (aCons (eOp2 pMul (eC (.int 4)) (eVar 2)) (aNil))) (aNil)))))
theorem some_run {b m : Nat} {x1 x3 x4 x5 x6 x7 x8 x9 : SV} (h1 : 1 ≤ m) (h8 : m ≤ 8) (hb : b < 4000000000) {K : PV × Env' → Prop} {E : XE' → Prop}
    (hK : ∀ a c d : Int, 0 ≤ a → a < m → K (.lst none [.int a, .int c, .int d], [.bx (b + 3), x1, .fz (.int m), x3, x4, x5, x6, x7, x8, x9])) : (bSome [.bx b, x1, .fz (.int m), x3, x4, x5, x6, x7, x8, x9]).run K E := by
  have t1 : eCallB mTake 0 (aCons (eVar 2) aNil) [.bx b, x1, .fz (.int m), x3, x4, x5, x6, x7, x8, x9] = _ := take_val (m := m) rfl rfl (by omega) (by omega) (by omega)
  have t2 : eCallB mTake 0 (aCons (eOp2 pMul (eC (.int 2)) (eVar 2)) aNil) [.bx (b + 1), x1, .fz (.int m), x3, x4, x5, x6, x7, x8, x9] = _ := take_val (m := ((2 * m : Nat) : Int)) (by
    have := mul_small (a := 2) (b := m) (by omega) (by omega)
    rw [show ((2 : Nat) : Int) = 2 from rfl] at this
    simp [this]) rfl (by omega) (by omega) (by omega)
  have t3 : eCallB mTake 0 (aCons (eOp2 pMul (eC (.int 4)) (eVar 2)) aNil) [.bx (b + 1 + 1), x1, .fz (.int m), x3, x4, x5, x6, x7, x8, x9] = _ := take_val (m := ((4 * m : Nat) : Int)) (by
    have := mul_small (a := 4) (b := m) (by omega) (by omega)
    rw [show ((4 : Nat) : Int) = 4 from rfl] at this
    simp [this]) rfl (by omega) (by omega) (by omega)
  simp only [List.set_cons_zero] at t1 t2 t3
  unfold bSome
  rw [c_eLst, c_lDisp, c_aCons, t1]
  simp only [all_bind, Wp.ret_bind, all_run]
  intro a ha
  rw [c_aCons, t2]
  simp only [all_bind, Wp.ret_bind, all_run]
  intro c hc
  rw [c_aCons, t3]
  simp only [all_bind, Wp.ret_bind, all_run]
  intro d hd
  simp [c_aNil]
  exact hK a c d ha.1 ha.2
def inSome (a c d : Int) (y : Nat) : Bool := (a == (y : Int)) || ((c == (y : Int)) || (d == (y : Int)))
theorem in_some (a c d : Int) (y : Nat) : pIn (.int y) (.lst none [.int a, .int c, .int d]) = some (.bl (inSome a c d y)) := by
  simp [pIn, inB, flatP, eqF, inSome]
def bCell : GL := lLc [9] (iRng (eVar 2)) (gN 9) (gBl (eOp2 pIn (eVar 9) (eVar 8))) (eTup (aCons (eVar 9) (aCons (eCallB mTake 0 (aCons (eVar 3) (aNil))) (aNil))))
theorem cell_run {b m k : Nat} {a c d : Int} {x1 x4 x5 x6 x7 x9 : SV} (h1 : 1 ≤ m) (h8 : m ≤ 8) (hk1 : 1 ≤ k) (hk8 : k ≤ 8) (hb : b < 4000000000) (ha : 0 ≤ a) (ham : a < m) (h9 : x9.own = false) {K : List PV × Env' → Prop} {E : XE' → Prop}
    (hK : ∀ (cl : Cell) b' x9, x9.own = false → b' ≤ b + 8 → CellOk m k cl → K (cl.map pr, [.bx b', x1, .fz (.int m), .fz (.int k), x4, x5, x6, x7, .fz (.lst none [.int a, .int c, .int d]), x9])) :
    (bCell [.bx b, x1, .fz (.int m), .fz (.int k), x4, x5, x6, x7, .fz (.lst none [.int a, .int c, .int d]), x9]).run K E := by
  have rg : iRange (.int (m : Int)) = some ((List.range m).map fun (k : Nat) => PV.int k) := iRange_len (sl_le (by omega))
  have lr : ((List.range m).map fun (k : Nat) => PV.int k).length = m := by rw [List.length_map, List.length_range]
  refine lLc_inv (xs := (List.range m).map fun (k : Nat) => PV.int k) (fun i ys ρ => ∃ (cl : Cell) (b' : Nat) (x9 : SV), x9.own = false ∧ b' ≤ b + i ∧ ys = cl.map pr ∧ cl.length ≤ i ∧ (cl.Pairwise fun p q => p.1 < q.1) ∧ (∀ p ∈ cl, p.1 < i ∧ p.2 < k) ∧ (a < i → cl ≠ []) ∧
      ρ = [.bx b', x1, .fz (.int m), .fz (.int k), x4, x5, x6, x7, .fz (.lst none [.int a, .int c, .int d]), x9]) (by simp [rg]) (by rw [lr]; exact sl_le (by omega)) (by simp [frozenAt, ownAt, h9])
    ⟨[], b, x9, h9, by omega, rfl, by simp, .nil, (fun _ z => nomatch z), (fun z => by omega), rfl⟩ (fun i x hx acc ρ1 hj => ?_) fun ys ρ' hj => ?_
  · obtain ⟨cl, b', x9', h9', hb', e1, hl, hp, hlt, hne, e2⟩ := hj
    obtain ⟨hi, rfl⟩ := range_at hx
    subst e1
    subst e2
    refine ⟨[.bx b', x1, .fz (.int m), .fz (.int k), x4, x5, x6, x7, .fz (.lst none [.int a, .int c, .int d]), .fz (.int i)], inSome a c d i, rfl, by simp [in_some], fun hf => ?_, fun ht {K E} hK => ?_⟩
    · refine ⟨cl, b', .fz (.int i), rfl, by omega, rfl, by omega, hp, (fun p hpm => by have := hlt p hpm; omega), (fun z => ?_), rfl⟩
      by_cases e : a = i
      · simp [inSome, e] at hf
      · exact hne (by omega)
    · have t : eCallB mTake 0 (aCons (eVar 3) aNil) [.bx b', x1, .fz (.int m), .fz (.int k), x4, x5, x6, x7, .fz (.lst none [.int a, .int c, .int d]), .fz (.int i)] = _ := take_val (m := k) rfl rfl (by omega) (by omega) (by omega)
      rw [c_eTup, c_aCons]
      simp only [c_eVar', List.getElem?_cons_succ, List.getElem?_cons_zero, Wp.ret_bind]
      rw [c_aCons, t]
      simp only [all_bind, Wp.ret_bind, all_run]
      intro t ht
      obtain ⟨t, rfl⟩ := Int.eq_ofNat_of_zero_le ht.1
      have ht2 : t < k := by omega
      simp [c_aNil]
      refine hK _ _ ⟨cl ++ [(i, t)], b' + 1, .fz (.int i), rfl, by omega, ?_, by simp; omega, ?_, ?_, (fun _ => by simp), rfl⟩
      · simp [pr]
      · refine List.pairwise_append.mpr ⟨hp, List.pairwise_singleton _ _, fun p hpm q hq => ?_⟩
        rw [List.mem_singleton.mp hq]
        exact (hlt p hpm).1
      · intro p hpm
        rcases List.mem_append.mp hpm with z | z
        · have := hlt p z; omega
        · rw [List.mem_singleton.mp z]; exact ⟨by simp, ht2⟩
  · obtain ⟨cl, b', x9', h9', hb', e1, hl, hp, hlt, hne, e2⟩ := hj
    rw [lr] at hb' hl hlt hne
    subst e1
    subst e2
    have : backE [SV.bx b', x1, .fz (.int m), .fz (.int k), x4, x5, x6, x7, .fz (.lst none [.int a, .int c, .int d]), x9'] [.bx b, x1, .fz (.int m), .fz (.int k), x4, x5, x6, x7, .fz (.lst none [.int a, .int c, .int d]), x9] [9] = [SV.bx b', x1, .fz (.int m), .fz (.int k), x4, x5, x6, x7, .fz (.lst none [.int a, .int c, .int d]), x9] := by
      cases x9 with
      | un => rfl
      | fz v => rfl
      | ow v => cases h9
      | bx v => cases h9
    rw [this]
    exact hK cl b' x9 h9 (by omega) ⟨hne ham, by omega, hp, hlt⟩
end k05

set_option Elab.async false
set_option linter.all false
set_option maxRecDepth 100000
set_option maxHeartbeats 1000000
namespace k05
open PySem PySem.Spec PyProof.Rows L2 VL
def bSign : GS := sSeq (sSet 8 bSome) (sAppO 6 (eOp1 pTuple (eLst bCell)))
def bRow : GS := sSeq (sOwn 6 (lDisp (aNil))) (sSeq (sFor (gN 7) (iRng (eVar 1)) bSign) (sPub 6 (sAppO 4 (eOp1 pTuple (eVar 6)))))
theorem any_eq : m__law_any_line = fnV 10 pin0 (sSeq (sOwn 4 (lDisp (aNil))) (sSeq (sFor (gN 5) (iRng (eVar 3)) bRow) (sPub 4 (sRet (eLst (lDisp (aCons (eVar 2) (aCons (eVar 1) (aCons (eOp1 pTuple (eVar 4)) (aNil)))))))))) := rfl
def rv (r : List Cell) : PV := sq true (r.map cv)
theorem sign_run {b m k : Nat} {r : List Cell} {x1 x4 x5 x7 x8 x9 : SV} (h1 : 1 ≤ m) (h8 : m ≤ 8) (hk1 : 1 ≤ k) (hk8 : k ≤ 8) (hb : b < 3000000000) (hr : r.length ≤ 8) (h9 : x9.own = false) {K : Out → Prop} {E : XE' → Prop}
    (hK : ∀ (c : Cell) b' x8 x9, x9.own = false → b' ≤ b + 11 → CellOk m k c → K (.nx [.bx b', x1, .fz (.int m), .fz (.int k), x4, x5, .ow ((r ++ [c]).map cv), x7, x8, x9])) :
    (bSign [.bx b, x1, .fz (.int m), .fz (.int k), x4, x5, .ow (r.map cv), x7, x8, x9]).run K E := by
  unfold bSign
  rw [c_sSeq, c_sSet]
  refine run_of (run_of (some_run h1 h8 (by omega) fun a c d ha ham => ?_))
  simp only [List.set_cons_succ, List.set_cons_zero]
  have o : ownAt [SV.bx (b + 3), x1, .fz (.int m), .fz (.int k), x4, x5, .ow (r.map cv), x7, .fz (.lst none [.int a, .int c, .int d]), x9] 6 = true := rfl
  show ((sAppO 6 (eOp1 pTuple (eLst bCell))) [SV.bx (b + 3), x1, .fz (.int m), .fz (.int k), x4, x5, .ow (r.map cv), x7, .fz (.lst none [.int a, .int c, .int d]), x9]).run K E
  rw [c_sAppO, if_pos o, c_eOp1, c_eLst]
  refine run_of (run_of (run_of (cell_run h1 h8 hk1 hk8 (by omega) ha ham h9 fun cl b' x9' h9' hb' co => ?_)))
  have lz : (r.map cv).length < sizeLine := by rw [List.length_map, sizeLine_eq]; omega
  simp only [pTuple, lift, Wp.run_ret, List.getElem?_cons_succ, List.getElem?_cons_zero]
  rw [if_pos lz]
  simp only [Wp.run_ret, List.set_cons_succ, List.set_cons_zero]
  have := hK cl b' (.fz (.lst none [.int a, .int c, .int d])) x9' h9' (by omega) co
  rw [List.map_append] at this
  exact this
theorem row_run {b m s k : Nat} {ws : List (List Cell)} {x5 x6 x7 x8 x9 : SV} (h1 : 1 ≤ m) (h8 : m ≤ 8) (hs6 : s ≤ 6) (hk1 : 1 ≤ k) (hk8 : k ≤ 8) (hb : b < 2000000000) (hw : ws.length ≤ 8) (h9 : x9.own = false) {K : Out → Prop} {E : XE' → Prop}
    (hK : ∀ (r : List Cell) b' x6 x7 x8 x9, x9.own = false → b' ≤ b + 66 → r.length = s → (∀ c ∈ r, CellOk m k c) → K (.nx [.bx b', .fz (.int s), .fz (.int m), .fz (.int k), .ow ((ws ++ [r]).map rv), x5, x6, x7, x8, x9])) :
    (bRow [.bx b, .fz (.int s), .fz (.int m), .fz (.int k), .ow (ws.map rv), x5, x6, x7, x8, x9]).run K E := by
  unfold bRow
  have rg : iRange (.int (s : Int)) = some ((List.range s).map fun (k : Nat) => PV.int k) := iRange_len (sl_le (by omega))
  have lr : ((List.range s).map fun (k : Nat) => PV.int k).length = s := by rw [List.length_map, List.length_range]
  rw [c_sSeq]
  refine run_of ?_
  simp only [c_sOwn, c_lDisp, c_aNil, Wp.ret_bind, List.length_nil, Nat.zero_le, if_true, Wp.run_ret, List.set_cons_succ, List.set_cons_zero]
  rw [c_sSeq]
  refine run_of ?_
  rw [c_sFor, c_iRng]
  simp only [c_eVar', List.getElem?_cons_succ, List.getElem?_cons_zero, Wp.ret_bind, rg, lift']
  refine for_inv (fun i ρ => ∃ (r : List Cell) (b' : Nat) (x7 x8 x9 : SV), x9.own = false ∧ b' ≤ b + 11 * i ∧ r.length = i ∧ (∀ c ∈ r, CellOk m k c) ∧ ρ = [.bx b', .fz (.int s), .fz (.int m), .fz (.int k), .ow (ws.map rv), x5, .ow (r.map cv), x7, x8, x9]) _ 0 _
    ⟨[], b, x7, x8, x9, h9, by omega, rfl, (fun _ z => nomatch z), rfl⟩ (fun i x hx ρ1 hj => ?_) fun ρ' hj => ?_
  · obtain ⟨r, b', x7', x8', x9', h9', hb', hl, hc, e⟩ := hj
    obtain ⟨hi, rfl⟩ := range_at hx
    subst e
    refine ⟨[.bx b', .fz (.int s), .fz (.int m), .fz (.int k), .ow (ws.map rv), x5, .ow (r.map cv), .fz (.int i), x8', x9'], rfl, fun {K E} hK => ?_⟩
    refine sign_run h1 h8 hk1 hk8 (by omega) (by omega) h9' fun c b2 x8 x9 h9 hb2 co => hK _ ⟨r ++ [c], b2, _, _, _, h9, by omega, by simp; omega, (fun c' hc' => ?_), rfl⟩
    rcases List.mem_append.mp hc' with z | z
    · exact hc c' z
    · rw [List.mem_singleton.mp z]; exact co
  · obtain ⟨r, b', x7', x8', x9', h9', hb', hl, hc, e⟩ := hj
    rw [Nat.zero_add, lr] at hb' hl
    subst e
    have lz : (ws.map rv).length < sizeLine := by rw [List.length_map, sizeLine_eq]; omega
    show ((sPub 6 (sAppO 4 (eOp1 pTuple (eVar 6)))) _).run K E
    rw [c_sPub]
    simp only [List.getElem?_cons_succ, List.getElem?_cons_zero, List.set_cons_succ, List.set_cons_zero]
    have o : ownAt [SV.bx b', .fz (.int s), .fz (.int m), .fz (.int k), .ow (ws.map rv), x5, .fz (.lst none (r.map cv)), x7', x8', x9'] 4 = true := rfl
    rw [c_sAppO, if_pos o, c_eOp1]
    simp only [c_eVar', List.getElem?_cons_succ, List.getElem?_cons_zero, Wp.ret_bind, pTuple, lift]
    rw [if_pos lz]
    simp only [Wp.run_ret, List.set_cons_succ, List.set_cons_zero]
    have := hK r b' (.fz (.lst none (r.map cv))) x7' x8' x9' h9' (by omega) hl hc
    rw [List.map_append] at this
    exact this
theorem any_run {b m s k : Nat} (h1 : 1 ≤ m) (h8 : m ≤ 8) (hs1 : 1 ≤ s) (hs6 : s ≤ 6) (hk1 : 1 ≤ k) (hk8 : k ≤ 8) (hb : b < 1000000000) {K : PV × List SV → Prop} {E : Ex × List SV → Prop}
    (hK : ∀ (ws : List (List Cell)) b', b' ≤ b + 528 → Ok m s ws → K (lv m s ws, [.bx b', .un, .un, .un])) : (m__law_any_line [.bx b, .fz (.int s), .fz (.int m), .fz (.int k)]).run K E := by
  rw [any_eq, fnV_eq rfl]
  have rg : iRange (.int (k : Int)) = some ((List.range k).map fun (k : Nat) => PV.int k) := iRange_len (sl_le (by omega))
  have lr : ((List.range k).map fun (k : Nat) => PV.int k).length = k := by rw [List.length_map, List.length_range]
  refine run_of ?_
  rw [run_map, c_sSeq]
  refine run_of ?_
  show ((sOwn 4 (lDisp (aNil))) [SV.bx b, .fz (.int s), .fz (.int m), .fz (.int k), .un, .un, .un, .un, .un, .un]).run _ _
  simp only [c_sOwn, c_lDisp, c_aNil, Wp.ret_bind, List.length_nil, Nat.zero_le, if_true, Wp.run_ret, List.set_cons_succ, List.set_cons_zero]
  rw [c_sSeq]
  refine run_of ?_
  rw [c_sFor, c_iRng]
  simp only [c_eVar', List.getElem?_cons_succ, List.getElem?_cons_zero, Wp.ret_bind, rg, lift']
  refine for_inv (fun i ρ => ∃ (ws : List (List Cell)) (b' : Nat) (x5 x6 x7 x8 x9 : SV), x9.own = false ∧ b' ≤ b + 66 * i ∧ ws.length = i ∧ (∀ r ∈ ws, r.length = s ∧ ∀ c ∈ r, CellOk m k c) ∧ ρ = [.bx b', .fz (.int s), .fz (.int m), .fz (.int k), .ow (ws.map rv), x5, x6, x7, x8, x9]) _ 0 _
    ⟨[], b, .un, .un, .un, .un, .un, rfl, by omega, rfl, (fun _ z => nomatch z), rfl⟩ (fun i x hx ρ1 hj => ?_) fun ρ' hj => ?_
  · obtain ⟨ws, b', x5', x6', x7', x8', x9', h9', hb', hl, hc, e⟩ := hj
    obtain ⟨hi, rfl⟩ := range_at hx
    subst e
    refine ⟨[.bx b', .fz (.int s), .fz (.int m), .fz (.int k), .ow (ws.map rv), .fz (.int i), x6', x7', x8', x9'], rfl, fun {K E} hK => ?_⟩
    refine row_run h1 h8 hs6 hk1 hk8 (by omega) (by omega) h9' fun r b2 x6 x7 x8 x9 h9 hb2 hr co => hK _ ⟨ws ++ [r], b2, _, _, _, _, _, h9, by omega, by simp; omega, (fun c' hc' => ?_), rfl⟩
    rcases List.mem_append.mp hc' with z | z
    · exact hc c' z
    · rw [List.mem_singleton.mp z]; exact ⟨hr, co⟩
  · obtain ⟨ws, b', x5', x6', x7', x8', x9', h9', hb', hl, hc, e⟩ := hj
    rw [Nat.zero_add, lr] at hb' hl
    subst e
    have o : Ok m s ws := ⟨h1, h8, by omega, by omega, hs1, hs6, fun r hr => (hc r hr).1, fun r hr c hcc => by rw [hl]; exact (hc r hr).2 c hcc⟩
    have := hK ws b' (by omega) o
    show ((sPub 4 _) _).run _ _
    rw [c_sPub]
    simp [pTuple, outs, SV.own]
    exact this
end k05

set_option Elab.async false
set_option linter.all false
set_option maxRecDepth 100000
set_option maxHeartbeats 1000000
namespace k05
open PySem PySem.Spec PyProof.Rows L2 VL
/-! ### the law's look at a line -/
theorem wv_smz {m s : Nat} {ws : List (List Cell)} (o : Ok m s ws) (n : Nat) : smz (n + 5) (wv ws) = true := by
  unfold wv wq sq
  simp only [if_true]
  unfold smz
  rw [Bool.and_eq_true]
  refine ⟨decide_eq_true (by rw [List.length_map]; have := o.n8; omega), smzs_all fun x hx => ?_⟩
  obtain ⟨r, hr, rfl⟩ := List.mem_map.mp hx
  unfold smz
  rw [Bool.and_eq_true]
  refine ⟨decide_eq_true (by rw [List.length_map, o.row r hr]; have := o.s6; omega), smzs_all fun x hx => ?_⟩
  obtain ⟨c, hc, rfl⟩ := List.mem_map.mp hx
  unfold cv smz
  rw [Bool.and_eq_true]
  refine ⟨decide_eq_true (by rw [List.length_map]; have := (o.cell r hr c hc).len; omega), smzs_all fun x hx => ?_⟩
  obtain ⟨p, _, rfl⟩ := List.mem_map.mp hx
  simp [pr, smz, smzs]
theorem lv_smz {m s : Nat} {ws : List (List Cell)} (o : Ok m s ws) (n : Nat) : smz (n + 6) (lv m s ws) = true := by
  have := wv_smz o n
  simp [lv, smz, smzs, this]
theorem Ok.more {m s : Nat} {ws : List (List Cell)} (o : Ok m s ws) (h : m < 8) : Ok (m + 1) s ws :=
  ⟨by omega, by omega, o.n1, o.n8, o.s1, o.s6, o.row, fun r hr c hc => by
    have := o.cell r hr c hc
    exact ⟨this.ne, this.len, this.asc, fun p hp => by have := this.lt p hp; omega⟩⟩
theorem ok71 : Ok 7 1 [[[(0, 0)]]] := ⟨by decide, by decide, by decide, by decide, by decide, by decide, by decide, fun r hr c hc => by
  rw [List.mem_singleton.mp hr] at hc
  rw [List.mem_singleton.mp hc]
  exact ⟨by decide, by decide, List.pairwise_singleton _ _, by decide⟩⟩
theorem eqI_run {m s : Nat} {ws : List (List Cell)} {ga gb : GE} {ρ : Env'} {b : PV} {z : Bool} (ha : ga ρ = .ret (ov m s ws, ρ)) (hb : gb ρ = .ret (b, ρ)) (ok : okR 5 b = true) (h : m_Line_eq [.fz (ov m s ws), .fz b] = .ret (.bl z, [.un, .un])) : eEqI 5 m_Line_eq ga gb ρ = .ret (.bl z, ρ) := by
  unfold eEqI
  rw [ha, Wp.ret_bind, hb, Wp.ret_bind]
  show (if 5 = 5 ∧ okR 5 b = true then (noE (m_Line_eq [.fz (ov m s ws), .fz b])).bind fun r => match r.1 with
    | .bl z => (.ret (PV.bl z, ρ) : Wp XE' (PV × Env'))
    | _ => .stuck
  else .stuck) = _
  rw [if_pos ⟨rfl, ok⟩, h]
  rfl
def bEnd : GS := sRet (eCall r__law_same (aCons (eLst (lDisp (aCons (eEqI 5 m_Line_eq (eVar 0) (eVar 2)) (aCons (eEqI 5 m_Line_eq (eVar 2) (eVar 0)) (aCons (eEqI 5 m_Line_eq (eVar 0) (eVar 3)) (aCons (eEqI 5 m_Line_eq (eVar 3) (eVar 0)) (aCons (eEqI 5 m_Line_eq (eVar 0) (eC (.int 7))) (aNil)))))))) (aCons (eLst (lDisp (aCons (eC (.bl true)) (aCons (eC (.bl true)) (aCons (eC (.bl false)) (aCons (eC (.bl false)) (aCons (eC (.bl false)) (aNil)))))))) (aNil))))
theorem is_eq : m__law_is_line = fnV 4 noPin (sSeq (sIf (gOr (gNot (gVal (eOp1 (pIsC 5) (eVar 0)))) (gNot (gVal (eCall r__law_same (aCons (eLst (lDisp (aCons (eFld flds_Line "marks" 5 (eVar 0)) (aCons (eFld flds_Line "signs" 5 (eVar 0)) (aCons (eFld flds_Line "ways" 5 (eVar 0)) (aNil)))))) (aCons (eVar 1) (aNil))))))) (sRet (eC (.bl false))) (sNil)) (sSeq (sPar 2 3 (eNew 5 m_Line (aCons (eOp2 pIx (eVar 1) (eC (.int 0))) (aCons (eOp2 pIx (eVar 1) (eC (.int 2))) (aNil)))) (eNew 5 m_Line (aCons (eIf (gBl (eOp2 pLtT (eOp2 pIx (eVar 1) (eC (.int 0))) (eC (.int 8)))) (eOp2 pAdd (eOp2 pIx (eVar 1) (eC (.int 0))) (eC (.int 1))) (eC (.int 7))) (aCons (eIf (gBl (eOp2 pLtT (eOp2 pIx (eVar 1) (eC (.int 0))) (eC (.int 8)))) (eOp2 pIx (eVar 1) (eC (.int 2))) (eTup (aCons (eTup (aCons (eTup (aCons (eTup (aCons (eC (.int 0)) (aCons (eC (.int 0)) (aNil)))) (aNil))) (aNil))) (aNil)))) (aNil))))) bEnd)) := rfl
theorem is_end {m m' s s' : Nat} {ws ws' : List (List Cell)} {x1 : SV} (h : m ≠ m') : bEnd [.fz (ov m s ws), x1, .fz (ov m s ws), .fz (ov m' s' ws')] = .ret (.rt (.bl true) [.fz (ov m s ws), x1, .fz (ov m s ws), .fz (ov m' s' ws')]) := by
  have e1 : eEqI 5 m_Line_eq (eVar 0) (eVar 2) [.fz (ov m s ws), x1, .fz (ov m s ws), .fz (ov m' s' ws')] = _ := eqI_run (m := m) (s := s) (ws := ws) rfl rfl rfl (eq_same m s ws)
  have e2 : eEqI 5 m_Line_eq (eVar 2) (eVar 0) [.fz (ov m s ws), x1, .fz (ov m s ws), .fz (ov m' s' ws')] = _ := eqI_run (m := m) (s := s) (ws := ws) rfl rfl rfl (eq_same m s ws)
  have e3 : eEqI 5 m_Line_eq (eVar 0) (eVar 3) [.fz (ov m s ws), x1, .fz (ov m s ws), .fz (ov m' s' ws')] = _ := eqI_run (m := m) (s := s) (ws := ws) rfl rfl rfl (eq_unlike s s' ws ws' h)
  have e4 : eEqI 5 m_Line_eq (eVar 3) (eVar 0) [.fz (ov m s ws), x1, .fz (ov m s ws), .fz (ov m' s' ws')] = _ := eqI_run (m := m') (s := s') (ws := ws') rfl rfl rfl (eq_unlike s' s ws' ws (Ne.symm h))
  have e5 : eEqI 5 m_Line_eq (eVar 0) (eC (.int 7)) [.fz (ov m s ws), x1, .fz (ov m s ws), .fz (ov m' s' ws')] = _ := eqI_run (m := m) (s := s) (ws := ws) rfl rfl rfl (eq_seven m s ws)
  have sm := same_run (sm_refl 12 (.lst none [.bl true, .bl true, .bl false, .bl false, .bl false]) (by decide +kernel))
  simp [bEnd, e1, e2, e3, e4, e5, fzs, sm]
theorem is_line_ok {m s : Nat} {ws : List (List Cell)} (o : Ok m s ws) : m__law_is_line [.fz (ov m s ws), .fz (lv m s ws)] = .ret (.bl true, [.un, .un]) := by
  rw [is_eq, fnV_eq rfl]
  have sm := same_run (sm_refl 12 (lv m s ws) (lv_smz o 6))
  have l1 := line_ok true o
  have m8 := o.m8
  have ew : wq true ws = wv ws := rfl
  rw [ew] at l1
  by_cases h : m < 8
  · have h' : (m : Int) < 8 := by omega
    have l2 := line_ok true (o.more h)
    rw [ew, Int.natCast_add, Int.natCast_one] at l2
    have e := is_end (m := m) (m' := m + 1) (s := s) (s' := s) (ws := ws) (ws' := ws) (x1 := .fz (lv m s ws)) (by omega)
    simp only [c_sSeq, c_sIf, c_gOr, c_gNot, c_gVal, c_eOp1, c_eVar', List.cons_append, List.nil_append, List.length_cons, List.length_nil, List.getElem?_cons_zero, List.getElem?_cons_succ, isC_ov]
    simp [eFld, truth, fzs, lv_eq, sm, sPar, eNew, l1, l2, ov_eq, pLtT, h', pAdd, e, outs, SV.own]
  · have h' : ¬ (m : Int) < 8 := by omega
    have e8 : m = 8 := by omega
    have l2 := line_ok true ok71
    rw [show wq true [[[(0, 0)]]] = PV.tup [.tup [.tup [.tup [.int 0, .int 0]]]] from rfl, show ((7 : Nat) : Int) = 7 from rfl] at l2
    have e := is_end (m := m) (m' := 7) (s := s) (s' := 1) (ws := ws) (ws' := [[[(0, 0)]]]) (x1 := .fz (lv m s ws)) (by omega)
    simp only [c_sSeq, c_sIf, c_gOr, c_gNot, c_gVal, c_eOp1, c_eVar', List.cons_append, List.nil_append, List.length_cons, List.length_nil, List.getElem?_cons_zero, List.getElem?_cons_succ, isC_ov]
    simp [eFld, truth, fzs, lv_eq, sm, sPar, eNew, l1, l2, ov_eq, pLtT, h', e, outs, SV.own]
end k05

set_option Elab.async false
set_option linter.all false
set_option maxRecDepth 100000
set_option maxHeartbeats 1000000
namespace k05
open PySem PySem.Spec PyProof.Rows L2 VL
/-! ### the joined line -/
def pc (m k : Nat) (ca cb : Cell) : Cell := ca.flatMap fun p => cb.map fun q => (p.1 * m + q.1, p.2 * k + q.2)
def pRow (m k : Nat) (ra rb : List Cell) : List Cell := ra.flatMap fun ca => rb.map fun cb => pc m k ca cb
def besW (m : Nat) (A B : List (List Cell)) : List (List Cell) := A.flatMap fun ra => B.map fun rb => pRow m B.length ra rb
theorem fm_len {α β γ : Type} (xs : List α) (ys : List β) (g : α → β → γ) : (xs.flatMap fun a => ys.map (g a)).length = xs.length * ys.length := by
  induction xs with
  | nil => simp
  | cons x xs ih => rw [List.flatMap_cons, List.length_append, List.length_map, ih, List.length_cons, Nat.succ_mul]; omega
theorem asc_len : ∀ (c : Cell) (lo m : Nat), (c.Pairwise fun p q => p.1 < q.1) → (∀ p ∈ c, lo ≤ p.1 ∧ p.1 < m) → c.length ≤ m - lo
  | [], lo, m, _, _ => by simp
  | p :: c, lo, m, h, hb => by
    obtain ⟨h1, h2⟩ := List.pairwise_cons.mp h
    have hp := hb p List.mem_cons_self
    have := asc_len c (p.1 + 1) m h2 fun q hq => ⟨h1 q hq, (hb q (List.mem_cons_of_mem _ hq)).2⟩
    rw [List.length_cons]
    omega
theorem enc2_lt {u v n k : Nat} (hu : u < n) (hv : v < k) : u * k + v < n * k := enc_lt hu hv
theorem pc_ok {mA mB n k : Nat} {ca cb : Cell} (oa : CellOk mA n ca) (ob : CellOk mB k cb) (h8 : mA * mB ≤ 8) : CellOk (mA * mB) (n * k) (pc mB k ca cb) := by
  have asc : (pc mB k ca cb).Pairwise fun p q => p.1 < q.1 := by
    unfold pc
    rw [List.pairwise_flatMap]
    refine ⟨fun p hp => ?_, oa.asc.imp_of_mem fun {p q} hp hq h x hx y hy => ?_⟩
    · rw [List.pairwise_map]
      exact ob.asc.imp fun h => by dsimp only; omega
    · obtain ⟨a, ha, rfl⟩ := List.mem_map.mp hx
      obtain ⟨b, hb, rfl⟩ := List.mem_map.mp hy
      have h1 := (ob.lt a ha).1
      have h2 := Nat.mul_le_mul_right mB (show p.1 + 1 ≤ q.1 from h)
      rw [Nat.succ_mul] at h2
      show p.1 * mB + a.1 < q.1 * mB + b.1
      omega
  have lt : ∀ p ∈ pc mB k ca cb, p.1 < mA * mB ∧ p.2 < n * k := fun x hx => by
    obtain ⟨p, hp, hx⟩ := List.mem_flatMap.mp hx
    obtain ⟨q, hq, rfl⟩ := List.mem_map.mp hx
    obtain ⟨p1, p2⟩ := oa.lt p hp
    obtain ⟨q1, q2⟩ := ob.lt q hq
    exact ⟨enc2_lt p1 q1, enc2_lt p2 q2⟩
  refine ⟨fun e => ?_, ?_, asc, lt⟩
  · have := congrArg List.length e
    unfold pc at this
    rw [fm_len] at this
    have l1 := List.length_pos_iff.mpr oa.ne
    have l2 := List.length_pos_iff.mpr ob.ne
    have := Nat.mul_pos l1 l2
    simp_all
  · have := asc_len _ 0 (mA * mB) asc fun p hp => ⟨Nat.zero_le _, (lt p hp).1⟩
    omega
theorem besW_len (m : Nat) (A B : List (List Cell)) : (besW m A B).length = A.length * B.length := fm_len _ _ _
theorem besW_ok {mA mB sA sB : Nat} {A B : List (List Cell)} (oA : Ok mA sA A) (oB : Ok mB sB B) (h6 : sA * sB ≤ 6) (h8 : mA * mB ≤ 8) (hn : A.length * B.length ≤ 8) : Ok (mA * mB) (sA * sB) (besW mB A B) where
  m1 := Nat.mul_pos oA.m1 oB.m1
  m8 := h8
  n1 := by rw [besW_len]; exact Nat.mul_pos oA.n1 oB.n1
  n8 := by rw [besW_len]; exact hn
  s1 := Nat.mul_pos oA.s1 oB.s1
  s6 := h6
  row := fun r hr => by
    obtain ⟨ra, ha, hr⟩ := List.mem_flatMap.mp hr
    obtain ⟨rb, hb, rfl⟩ := List.mem_map.mp hr
    rw [pRow, fm_len, oA.row ra ha, oB.row rb hb]
  cell := fun r hr c hc => by
    rw [besW_len]
    obtain ⟨ra, ha, hr⟩ := List.mem_flatMap.mp hr
    obtain ⟨rb, hb, rfl⟩ := List.mem_map.mp hr
    obtain ⟨ca, hca, hc⟩ := List.mem_flatMap.mp hc
    obtain ⟨cb, hcb, rfl⟩ := List.mem_map.mp hc
    exact pc_ok (oA.cell ra ha ca hca) (oB.cell rb hb cb hcb) h8
/-! ### the program's loops -/
def bC : GE := eOp1 pTuple (eLst (lLc2 [9, 10, 11, 12] [11, 12] (iSeq (eVar 7)) (gT [9, 10]) (gYes) (iSeq (eVar 8)) (gT [11, 12]) (gYes) (eTup (aCons (eOp2 pAdd (eOp2 pMul (eVar 9) (eFld flds_Line "marks" 5 (eVar 1))) (eVar 11)) (aCons (eOp2 pAdd (eOp2 pMul (eVar 10) (eVar 2)) (eVar 12)) (aNil))))))
theorem small_p {m n : Nat} {c : Cell} (o : CellOk m n c) (hm : m ≤ 8) (hn : n ≤ 8) {p : Nat × Nat} (hp : p ∈ c) : p.1 ≤ 8 ∧ p.2 ≤ 8 := by
  have := o.lt p hp
  omega
theorem cell_c {mA mB sB n k : Nat} {B : List (List Cell)} {ca cb : Cell} (oa : CellOk mA n ca) (ob : CellOk mB k cb) (ha : mA ≤ 8) (hb : mB ≤ 8) (hn : n ≤ 8) (hk : k ≤ 8) (x0 x3 x4 x5 x6 : SV) :
    bC [x0, .fz (ov mB sB B), .fz (.int k), x3, x4, x5, x6, .fz (cv ca), .fz (cv cb), .un, .un, .un, .un] = .ret (cv (pc mB k ca cb), [x0, .fz (ov mB sB B), .fz (.int k), x3, x4, x5, x6, .fz (cv ca), .fz (cv cb), .un, .un, .un, .un]) := by
  have la := oa.len
  have lb := ob.len
  have q : lLc2 [9, 10, 11, 12] [11, 12] (iSeq (eVar 7)) (gT [9, 10]) (gYes) (iSeq (eVar 8)) (gT [11, 12]) (gYes) (eTup (aCons (eOp2 pAdd (eOp2 pMul (eVar 9) (eFld flds_Line "marks" 5 (eVar 1))) (eVar 11)) (aCons (eOp2 pAdd (eOp2 pMul (eVar 10) (eVar 2)) (eVar 12)) (aNil)))) [x0, .fz (ov mB sB B), .fz (.int k), x3, x4, x5, x6, .fz (cv ca), .fz (cv cb), .un, .un, .un, .un] =
      .ret ((ca.map pr).flatMap fun x => (cb.map pr).map fun y => (match x, y with | .tup [.int a, .int b], .tup [.int c, .int d] => PV.tup [.int (a * mB + c), .int (b * k + d)] | _, _ => .non), [x0, .fz (ov mB sB B), .fz (.int k), x3, x4, x5, x6, .fz (cv ca), .fz (cv cb), .un, .un, .un, .un]) := by
    refine lLc2_gen (fun ρ => ∃ a b c d, ρ = [x0, .fz (ov mB sB B), .fz (.int k), x3, x4, x5, x6, .fz (cv ca), .fz (cv cb), a, b, c, d]) (fun _ => cb.map pr) (fun x y => (match x, y with | .tup [.int a, .int b], .tup [.int c, .int d] => PV.tup [.int (a * mB + c), .int (b * k + d)] | _, _ => .non)) (by simp [cv, items]) (by rw [List.length_map]; omega) rfl ⟨_, _, _, _, rfl⟩ (fun x hx ρ1 ⟨a, b, c, d, e⟩ => ?_) fun ρ1 ⟨a, b, c, d, e⟩ => by rw [e]; rfl
    obtain ⟨p, hp, rfl⟩ := List.mem_map.mp hx
    subst e
    refine ⟨[x0, .fz (ov mB sB B), .fz (.int k), x3, x4, x5, x6, .fz (cv ca), .fz (cv cb), .fz (.int p.1), .fz (.int p.2), .un, .un], rfl, rfl, by simp [cv, items], by rw [List.length_map]; omega,
      fun ρ => ∃ c d, ρ = [x0, .fz (ov mB sB B), .fz (.int k), x3, x4, x5, x6, .fz (cv ca), .fz (cv cb), .fz (.int p.1), .fz (.int p.2), c, d], ⟨_, _, rfl⟩, fun ρ3 ⟨c, d, e⟩ => ⟨_, _, _, _, e⟩, fun y hy ρ3 ⟨c, d, e⟩ => ?_⟩
    obtain ⟨q, hq, rfl⟩ := List.mem_map.mp hy
    subst e
    refine ⟨[x0, .fz (ov mB sB B), .fz (.int k), x3, x4, x5, x6, .fz (cv ca), .fz (cv cb), .fz (.int p.1), .fz (.int p.2), .fz (.int q.1), .fz (.int q.2)], rfl, ⟨_, _, rfl⟩, rfl, ?_⟩
    have hp8 := small_p oa ha hn hp
    have m1 : pMul (.int (p.1 : Int)) (.int mB) = some (.int ((p.1 * mB : Nat) : Int)) := mul_small (by omega) (by omega)
    have m2 : pMul (.int (p.2 : Int)) (.int k) = some (.int ((p.2 * k : Nat) : Int)) := mul_small (by omega) (by omega)
    simp [eFld, m1, m2, pAdd, pr]
  have e : ((ca.map pr).flatMap fun x => (cb.map pr).map fun y => (match x, y with | .tup [.int a, .int b], .tup [.int c, .int d] => PV.tup [.int (a * mB + c), .int (b * k + d)] | _, _ => .non)) = (pc mB k ca cb).map pr := by
    unfold pc
    rw [List.map_flatMap, List.flatMap_map]
    congr 1
    funext p
    rw [List.map_map, List.map_map]
    refine List.map_congr_left fun q _ => ?_
    simp [pr]
  rw [e] at q
  simp [bC, q, pTuple]
  rfl
theorem map_at {α : Type} {xs : List α} {f : α → PV} {k : Nat} {x : PV} (h : (xs.map f)[k]? = some x) : ∃ a, a ∈ xs ∧ xs[k]? = some a ∧ x = f a := by
  rw [List.getElem?_map, Option.map_eq_some_iff] at h
  obtain ⟨a, e, rfl⟩ := h
  exact ⟨a, List.mem_of_getElem? e, e, rfl⟩
theorem take_one {α : Type} {xs : List α} {k : Nat} {a : α} (h : xs[k]? = some a) : xs.take (k + 1) = xs.take k ++ [a] := by
  rw [List.take_succ, h]; rfl
/-- the last loop -/
theorem loop1 {mA mB sB n k : Nat} {B : List (List Cell)} {ca : Cell} {rb : List Cell} (oa : CellOk mA n ca) (ob : ∀ cb ∈ rb, CellOk mB k cb) (ha : mA ≤ 8) (hb : mB ≤ 8) (hn : n ≤ 8) (hk : k ≤ 8) (hrb : rb.length ≤ 8) (R : List PV) (hR : R.length ≤ 1000) (x0 x3 x4 x5 x8 : SV) :
    ∃ y8, forLoop (gN 8) (sAppO 6 bC) (rb.map cv) [x0, .fz (ov mB sB B), .fz (.int k), x3, x4, x5, .ow R, .fz (cv ca), x8, .un, .un, .un, .un] = .ret (.nx [x0, .fz (ov mB sB B), .fz (.int k), x3, x4, x5, .ow (R ++ rb.map fun cb => cv (pc mB k ca cb)), .fz (cv ca), y8, .un, .un, .un, .un]) := by
  obtain ⟨ρ', ⟨y8, e⟩, h⟩ := for_det (f := gN 8) (g := sAppO 6 bC) (fun j ρ => ∃ y8, ρ = [x0, .fz (ov mB sB B), .fz (.int k), x3, x4, x5, .ow (R ++ (rb.take j).map fun cb => cv (pc mB k ca cb)), .fz (cv ca), y8, .un, .un, .un, .un]) (rb.map cv) 0 [x0, .fz (ov mB sB B), .fz (.int k), x3, x4, x5, .ow R, .fz (cv ca), x8, .un, .un, .un, .un] ⟨x8, by simp⟩ fun j x hx ρ1 ⟨y8, e⟩ => by
    obtain ⟨cb, hm, hj, rfl⟩ := map_at hx
    subst e
    rw [Nat.zero_add]
    refine ⟨[x0, .fz (ov mB sB B), .fz (.int k), x3, x4, x5, .ow (R ++ (rb.take j).map fun cb => cv (pc mB k ca cb)), .fz (cv ca), .fz (cv cb), .un, .un, .un, .un], _, rfl, ?_, .fz (cv cb), rfl⟩
    have q := cell_c (sB := sB) (B := B) oa (ob cb hm) ha hb hn hk x0 x3 x4 x5 (.ow (R ++ (rb.take j).map fun cb => cv (pc mB k ca cb)))
    have lz : (R ++ (rb.take j).map fun cb => cv (pc mB k ca cb)).length < sizeLine := by
      rw [List.length_append, List.length_map, List.length_take, sizeLine_eq]; omega
    rw [take_one hj, List.map_append, List.map_singleton, ← List.append_assoc]
    generalize R ++ (rb.take j).map (fun cb => cv (pc mB k ca cb)) = R1 at *
    have o : ownAt [x0, .fz (ov mB sB B), .fz (.int k), x3, x4, x5, .ow R1, .fz (cv ca), .fz (cv cb), .un, .un, .un, .un] 6 = true := rfl
    simp [o, q, lz]
  rw [Nat.zero_add, List.length_map, List.take_length] at e
  subst e
  exact ⟨y8, h⟩
theorem loop2 {mA mB sB n k : Nat} {B : List (List Cell)} {ra rb : List Cell} (oa : ∀ ca ∈ ra, CellOk mA n ca) (ob : ∀ cb ∈ rb, CellOk mB k cb) (ha : mA ≤ 8) (hb : mB ≤ 8) (hn : n ≤ 8) (hk : k ≤ 8) (hra : ra.length ≤ 8) (hrb : rb.length ≤ 8) (x0 x3 x4 x7 x8 : SV) :
    ∃ y7 y8, forLoop (gN 7) (sFor (gN 8) (iSeq (eVar 5)) (sAppO 6 bC)) (ra.map cv) [x0, .fz (ov mB sB B), .fz (.int k), x3, x4, .fz (sq true (rb.map cv)), .ow [], x7, x8, .un, .un, .un, .un] = .ret (.nx [x0, .fz (ov mB sB B), .fz (.int k), x3, x4, .fz (sq true (rb.map cv)), .ow ((pRow mB k ra rb).map cv), y7, y8, .un, .un, .un, .un]) := by
  obtain ⟨ρ', ⟨y7, y8, e⟩, h⟩ := for_det (f := gN 7) (g := sFor (gN 8) (iSeq (eVar 5)) (sAppO 6 bC)) (fun j ρ => ∃ y7 y8, ρ = [x0, .fz (ov mB sB B), .fz (.int k), x3, x4, .fz (sq true (rb.map cv)), .ow ((ra.take j).flatMap fun ca => rb.map fun cb => cv (pc mB k ca cb)), y7, y8, .un, .un, .un, .un]) (ra.map cv) 0 [x0, .fz (ov mB sB B), .fz (.int k), x3, x4, .fz (sq true (rb.map cv)), .ow [], x7, x8, .un, .un, .un, .un] ⟨x7, x8, by simp⟩ fun j x hx ρ1 ⟨y7, y8, e⟩ => by
    obtain ⟨ca, hm, hj, rfl⟩ := map_at hx
    subst e
    rw [Nat.zero_add]
    have lz : ((ra.take j).flatMap fun ca => rb.map fun cb => cv (pc mB k ca cb)).length ≤ 1000 := by
      rw [fm_len, List.length_take]
      have := Nat.mul_le_mul (show min j ra.length ≤ 8 by omega) hrb
      omega
    obtain ⟨z8, q⟩ := loop1 (sB := sB) (B := B) (oa ca hm) ob ha hb hn hk hrb _ lz x0 x3 x4 (.fz (sq true (rb.map cv))) y8
    refine ⟨[x0, .fz (ov mB sB B), .fz (.int k), x3, x4, .fz (sq true (rb.map cv)), .ow ((ra.take j).flatMap fun ca => rb.map fun cb => cv (pc mB k ca cb)), .fz (cv ca), y8, .un, .un, .un, .un], _, rfl, ?_, .fz (cv ca), z8, rfl⟩
    rw [take_one hj, List.flatMap_append, List.flatMap_cons, List.flatMap_nil, List.append_nil]
    generalize (ra.take j).flatMap (fun ca => rb.map fun cb => cv (pc mB k ca cb)) = R1 at *
    rw [c_sFor, c_iSeq]
    simp only [c_eVar', List.getElem?_cons_succ, List.getElem?_cons_zero, Wp.ret_bind, sq_items, lift']
    exact q
  rw [Nat.zero_add, List.length_map, List.take_length] at e
  subst e
  refine ⟨y7, y8, ?_⟩
  have er : (pRow mB k ra rb).map cv = ra.flatMap fun ca => rb.map fun cb => cv (pc mB k ca cb) := by
    unfold pRow
    rw [List.map_flatMap]
    simp only [List.map_map, Function.comp_def]
  rw [er]
  exact h
end k05

set_option Elab.async false
set_option linter.all false
set_option maxRecDepth 100000
set_option maxHeartbeats 1000000
namespace k05
open PySem PySem.Spec PyProof.Rows L2 VL
def bT : GS := sSeq (sOwn 6 (lDisp (aNil))) (sSeq (sFor (gN 7) (iSeq (eVar 4)) (sFor (gN 8) (iSeq (eVar 5)) (sAppO 6 bC))) (sPub 6 (sAppO 3 (eVar 6))))
def rq (b : Bool) (r : List Cell) : PV := sq b (r.map cv)
theorem t_step {mA mB sB n k : Nat} {B : List (List Cell)} {ra rb : List Cell} (oa : ∀ ca ∈ ra, CellOk mA n ca) (ob : ∀ cb ∈ rb, CellOk mB k cb) (ha : mA ≤ 8) (hb : mB ≤ 8) (hn : n ≤ 8) (hk : k ≤ 8) (hra : ra.length ≤ 8) (hrb : rb.length ≤ 8) (W : List PV) (hW : W.length ≤ 1000) (x0 x6 x7 x8 : SV) :
    ∃ y6 y7 y8, bT [x0, .fz (ov mB sB B), .fz (.int k), .ow W, .fz (rq true ra), .fz (rq true rb), x6, x7, x8, .un, .un, .un, .un] = .ret (.nx [x0, .fz (ov mB sB B), .fz (.int k), .ow (W ++ [rq false (pRow mB k ra rb)]), .fz (rq true ra), .fz (rq true rb), y6, y7, y8, .un, .un, .un, .un]) := by
  obtain ⟨y7, y8, q⟩ := loop2 (sB := sB) (B := B) oa ob ha hb hn hk hra hrb x0 (.ow W) (.fz (rq true ra)) x7 x8
  refine ⟨.fz (rq false (pRow mB k ra rb)), y7, y8, ?_⟩
  rw [show sq true (rb.map cv) = rq true rb from rfl] at q
  have lz : W.length < sizeLine := by rw [sizeLine_eq]; omega
  have i1 : items (rq true ra) = some (ra.map cv) := rfl
  unfold bT
  rw [c_sSeq]
  simp only [c_sOwn, c_lDisp, c_aNil, Wp.ret_bind, List.length_nil, Nat.zero_le, if_true, Wp.run_ret, List.set_cons_succ, List.set_cons_zero]
  rw [c_sSeq, c_sFor, c_iSeq]
  simp only [c_eVar', List.getElem?_cons_succ, List.getElem?_cons_zero, Wp.ret_bind, i1, lift']
  rw [q]
  simp only [Wp.ret_bind]
  rw [c_sPub]
  simp only [List.getElem?_cons_succ, List.getElem?_cons_zero, List.set_cons_succ, List.set_cons_zero]
  have o : ∀ y : SV, ownAt [x0, .fz (ov mB sB B), .fz (.int k), .ow W, .fz (rq true ra), .fz (rq true rb), y, y7, y8, .un, .un, .un, .un] 3 = true := fun _ => rfl
  rw [c_sAppO, if_pos (o _)]
  simp only [c_eVar', List.getElem?_cons_succ, List.getElem?_cons_zero, Wp.ret_bind]
  rw [if_pos lz]
  rfl
theorem loop3 {mA mB sB n k : Nat} {B Bs : List (List Cell)} {ra : List Cell} (oa : ∀ ca ∈ ra, CellOk mA n ca) (ob : ∀ rb ∈ Bs, rb.length ≤ 8 ∧ ∀ cb ∈ rb, CellOk mB k cb) (ha : mA ≤ 8) (hb : mB ≤ 8) (hn : n ≤ 8) (hk : k ≤ 8) (hra : ra.length ≤ 8) (hB : Bs.length ≤ 8) (W : List PV) (hW : W.length ≤ 900) (x0 x5 x6 x7 x8 : SV) :
    ∃ y5 y6 y7 y8, forLoop (gN 5) bT (Bs.map (rq true)) [x0, .fz (ov mB sB B), .fz (.int k), .ow W, .fz (rq true ra), x5, x6, x7, x8, .un, .un, .un, .un] = .ret (.nx [x0, .fz (ov mB sB B), .fz (.int k), .ow (W ++ Bs.map fun rb => rq false (pRow mB k ra rb)), .fz (rq true ra), y5, y6, y7, y8, .un, .un, .un, .un]) := by
  obtain ⟨ρ', ⟨y5, y6, y7, y8, e⟩, h⟩ := for_det (f := gN 5) (g := bT) (fun j ρ => ∃ y5 y6 y7 y8, ρ = [x0, .fz (ov mB sB B), .fz (.int k), .ow (W ++ (Bs.take j).map fun rb => rq false (pRow mB k ra rb)), .fz (rq true ra), y5, y6, y7, y8, .un, .un, .un, .un]) (Bs.map (rq true)) 0 [x0, .fz (ov mB sB B), .fz (.int k), .ow W, .fz (rq true ra), x5, x6, x7, x8, .un, .un, .un, .un] ⟨x5, x6, x7, x8, by simp⟩ fun j x hx ρ1 ⟨y5, y6, y7, y8, e⟩ => by
    obtain ⟨rb, hm, hj, rfl⟩ := map_at hx
    subst e
    rw [Nat.zero_add]
    have lz : (W ++ (Bs.take j).map fun rb => rq false (pRow mB k ra rb)).length ≤ 1000 := by
      rw [List.length_append, List.length_map, List.length_take]; omega
    obtain ⟨z6, z7, z8, q⟩ := t_step (sB := sB) (B := B) oa (ob rb hm).2 ha hb hn hk hra (ob rb hm).1 _ lz x0 y6 y7 y8
    refine ⟨_, _, rfl, q, .fz (rq true rb), z6, z7, z8, ?_⟩
    rw [take_one hj, List.map_append, List.map_singleton, List.append_assoc]
  rw [Nat.zero_add, List.length_map, List.take_length] at e
  subst e
  exact ⟨y5, y6, y7, y8, h⟩
theorem loop4 {mA mB sB n : Nat} {As B : List (List Cell)} (oa : ∀ ra ∈ As, ra.length ≤ 8 ∧ ∀ ca ∈ ra, CellOk mA n ca) (ob : ∀ rb ∈ B, rb.length ≤ 8 ∧ ∀ cb ∈ rb, CellOk mB B.length cb) (ha : mA ≤ 8) (hb : mB ≤ 8) (hn : n ≤ 8) (hB : B.length ≤ 8) (hA : As.length ≤ 8) (x0 x4 x5 x6 x7 x8 : SV) :
    ∃ y4 y5 y6 y7 y8, forLoop (gN 4) (sFor (gN 5) (iSeq (eFld flds_Line "ways" 5 (eVar 1))) bT) (As.map (rq true)) [x0, .fz (ov mB sB B), .fz (.int B.length), .ow [], x4, x5, x6, x7, x8, .un, .un, .un, .un] = .ret (.nx [x0, .fz (ov mB sB B), .fz (.int B.length), .ow ((besW mB As B).map (rq false)), y4, y5, y6, y7, y8, .un, .un, .un, .un]) := by
  obtain ⟨ρ', ⟨y4, y5, y6, y7, y8, e⟩, h⟩ := for_det (f := gN 4) (g := sFor (gN 5) (iSeq (eFld flds_Line "ways" 5 (eVar 1))) bT) (fun j ρ => ∃ y4 y5 y6 y7 y8, ρ = [x0, .fz (ov mB sB B), .fz (.int B.length), .ow ((As.take j).flatMap fun ra => B.map fun rb => rq false (pRow mB B.length ra rb)), y4, y5, y6, y7, y8, .un, .un, .un, .un]) (As.map (rq true)) 0 [x0, .fz (ov mB sB B), .fz (.int B.length), .ow [], x4, x5, x6, x7, x8, .un, .un, .un, .un] ⟨x4, x5, x6, x7, x8, by simp⟩ fun j x hx ρ1 ⟨y4, y5, y6, y7, y8, e⟩ => by
    obtain ⟨ra, hm, hj, rfl⟩ := map_at hx
    subst e
    rw [Nat.zero_add]
    have lz : ((As.take j).flatMap fun ra => B.map fun rb => rq false (pRow mB B.length ra rb)).length ≤ 900 := by
      rw [fm_len, List.length_take]
      have := Nat.mul_le_mul (show min j As.length ≤ 8 by omega) hB
      omega
    obtain ⟨z5, z6, z7, z8, q⟩ := loop3 (sB := sB) (B := B) (Bs := B) (oa ra hm).2 ob ha hb hn hB (oa ra hm).1 hB _ lz x0 y5 y6 y7 y8
    refine ⟨[x0, .fz (ov mB sB B), .fz (.int B.length), .ow ((As.take j).flatMap fun ra => B.map fun rb => rq false (pRow mB B.length ra rb)), .fz (rq true ra), y5, y6, y7, y8, .un, .un, .un, .un], _, rfl, ?_, .fz (rq true ra), z5, z6, z7, z8, rfl⟩
    rw [take_one hj, List.flatMap_append, List.flatMap_cons, List.flatMap_nil, List.append_nil]
    generalize (As.take j).flatMap (fun ra => B.map fun rb => rq false (pRow mB B.length ra rb)) = W at *
    have i1 : items (wv B) = some (B.map (rq true)) := rfl
    rw [c_sFor, c_iSeq]
    simp only [eFld, c_eVar', List.getElem?_cons_succ, List.getElem?_cons_zero, Wp.ret_bind, fld_ways, lift, i1, lift']
    exact q
  rw [Nat.zero_add, List.length_map, List.take_length] at e
  subst e
  refine ⟨y4, y5, y6, y7, y8, ?_⟩
  have er : (besW mB As B).map (rq false) = As.flatMap fun ra => B.map fun rb => rq false (pRow mB B.length ra rb) := by
    unfold besW
    rw [List.map_flatMap]
    simp only [List.map_map, Function.comp_def]
  rw [er]
  exact h
/-! ### the program -/
theorem check_no {c m : Nat} (h : c ≤ m) : m_check_count [.fz (.int c), .fz (.int m)] = .ret (.non, [.un, .un]) := by
  unfold m_check_count
  rw [fnV_eq rfl]
  have e : pGt (.int c) (.int m) = some (.bl false) := by simp [pGt]; omega
  simp [b_check_count, e, outs, SV.own]
theorem check_yes {c m : Nat} (h : ¬ c ≤ m) : m_check_count [.fz (.int c), .fz (.int m)] = .raise (⟨4, [("count", .int c)]⟩, [.un, .un]) := by
  unfold m_check_count
  rw [fnV_eq rfl]
  have e : pGt (.int c) (.int m) = some (.bl true) := by simp [pGt]; omega
  simp [b_check_count, e, outs, SV.own]
inductive Due where
  | many (c : Nat) | line (m s : Nat) (ws : List (List Cell))
def due (mA sA : Nat) (A : List (List Cell)) (mB sB : Nat) (B : List (List Cell)) : Due :=
  if ¬ sA * sB ≤ 6 then .many (sA * sB) else if ¬ mA * mB ≤ 8 then .many (mA * mB) else if ¬ A.length * B.length ≤ 8 then .many (A.length * B.length) else .line (mA * mB) (sA * sB) (besW mB A B)
theorem bes_eq : m_lines_beside = fnV 13 noPin (sSeq (sDrop (eCall m_check_count (aCons (eOp2 pMul (eFld flds_Line "signs" 5 (eVar 0)) (eFld flds_Line "signs" 5 (eVar 1))) (aCons (eC (.int 6)) (aNil))))) (sSeq (sDrop (eCall m_check_count (aCons (eOp2 pMul (eFld flds_Line "marks" 5 (eVar 0)) (eFld flds_Line "marks" 5 (eVar 1))) (aCons (eC (.int 8)) (aNil))))) (sSeq (sSet 2 (eOp1 pLen (eFld flds_Line "ways" 5 (eVar 1)))) (sSeq (sDrop (eCall m_check_count (aCons (eOp2 pMul (eOp1 pLen (eFld flds_Line "ways" 5 (eVar 0))) (eVar 2)) (aCons (eC (.int 8)) (aNil))))) (sSeq (sOwn 3 (lDisp (aNil))) (sSeq (sFor (gN 4) (iSeq (eFld flds_Line "ways" 5 (eVar 0))) (sFor (gN 5) (iSeq (eFld flds_Line "ways" 5 (eVar 1))) bT)) (sPub 3 (sRet (eNew 5 m_Line (aCons (eOp2 pMul (eFld flds_Line "marks" 5 (eVar 0)) (eFld flds_Line "marks" 5 (eVar 1))) (aCons (eVar 3) (aNil)))))))))))) := rfl
theorem ok_rows {m s : Nat} {ws : List (List Cell)} (o : Ok m s ws) : ∀ r ∈ ws, r.length ≤ 8 ∧ ∀ c ∈ r, CellOk m ws.length c := fun r hr => ⟨by rw [o.row r hr]; have := o.s6; omega, o.cell r hr⟩
theorem bes_ok {mA sA mB sB : Nat} {A B : List (List Cell)} (oA : Ok mA sA A) (oB : Ok mB sB B) : m_lines_beside [.fz (ov mA sA A), .fz (ov mB sB B)] = match due mA sA A mB sB B with
    | .line m s ws => .ret (ov m s ws, [.un, .un])
    | .many c => .raise (⟨4, [("count", .int c)]⟩, [.un, .un]) := by
  rw [bes_eq, fnV_eq rfl]
  unfold due
  have nA := oA.n8
  have nB := oB.n8
  have mA8 := oA.m8
  have mB8 := oB.m8
  have sA6 := oA.s6
  have sB6 := oB.s6
  have lA : pLen (wv A) = some (.int A.length) := by unfold wv wq; rw [sq_len, List.length_map]
  have lB : pLen (wv B) = some (.int B.length) := by unfold wv wq; rw [sq_len, List.length_map]
  have q1 : pMul (.int (sA : Int)) (.int sB) = some (.int ((sA * sB : Nat) : Int)) := mul_small (by omega) (by omega)
  have q2 : pMul (.int (mA : Int)) (.int mB) = some (.int ((mA * mB : Nat) : Int)) := mul_small (by omega) (by omega)
  have q3 : pMul (.int (A.length : Int)) (.int B.length) = some (.int ((A.length * B.length : Nat) : Int)) := mul_small (by omega) (by omega)
  have bw := besW_ok oA oB
  by_cases h1 : sA * sB ≤ 6
  · have c1 := check_no h1
    rw [if_neg (not_not_intro h1)]
    by_cases h2 : mA * mB ≤ 8
    · have c2 := check_no h2
      rw [if_neg (not_not_intro h2)]
      by_cases h3 : A.length * B.length ≤ 8
      · have c3 := check_no h3
        rw [if_neg (not_not_intro h3)]
        obtain ⟨y4, y5, y6, y7, y8, f⟩ := loop4 (sB := sB) (n := A.length) (ok_rows oA) (ok_rows oB) mA8 mB8 nA nB nA (.fz (ov mA sA A)) .un .un .un .un .un
        have ln := line_ok false (bw h1 h2 h3)
        have ew : wq false (besW mB A B) = .lst none ((besW mB A B).map (rq false)) := rfl
        rw [ew] at ln
        have iA : items (wv A) = some (A.map (rq true)) := rfl
        generalize (besW mB A B).map (rq false) = L1 at f ln
        generalize mA * mB = mm at *
        generalize sA * sB = ss at *
        generalize A.length * B.length = nn at *
        rw [show ((6 : Nat) : Int) = 6 from rfl] at c1
        rw [show ((8 : Nat) : Int) = 8 from rfl] at c2 c3
        simp [eFld, lA, lB, q1, q2, q3, fzs, c1, c2, c3, sDrop, iA, f, eNew, ln, ov_eq, outs, SV.own]
      · have c3 := check_yes h3
        rw [if_pos h3]
        generalize mA * mB = mm at *
        generalize sA * sB = ss at *
        generalize A.length * B.length = nn at *
        rw [show ((6 : Nat) : Int) = 6 from rfl] at c1
        rw [show ((8 : Nat) : Int) = 8 from rfl] at c2 c3
        simp [eFld, lA, lB, q1, q2, q3, fzs, c1, c2, c3, sDrop, outs, SV.own]
    · have c2 := check_yes h2
      rw [if_pos h2]
      generalize mA * mB = mm at *
      generalize sA * sB = ss at *
      rw [show ((6 : Nat) : Int) = 6 from rfl] at c1
      rw [show ((8 : Nat) : Int) = 8 from rfl] at c2
      simp [eFld, lA, lB, q1, q2, q3, fzs, c1, c2, sDrop, outs, SV.own]
  · have c1 := check_yes h1
    rw [if_pos h1]
    generalize sA * sB = ss at *
    rw [show ((6 : Nat) : Int) = 6 from rfl] at c1
    simp [eFld, lA, lB, q1, q2, q3, fzs, c1, sDrop, outs, SV.own]
end k05

set_option Elab.async false
set_option linter.all false
set_option maxRecDepth 100000
set_option maxHeartbeats 1000000
namespace k05
open PySem PySem.Spec PyProof.Rows L2 VL
/-! ### what is due -/
def lE : GL := lLc [12, 13] (iSeq (eVar 3)) (gT [12, 13]) (gYes) (eTup (aCons (eOp2 pAdd (eOp2 pMul (eVar 10) (eOp2 pIx (eVar 1) (eC (.int 0)))) (eVar 12)) (aCons (eOp2 pAdd (eOp2 pMul (eVar 11) (eOp1 pLen (eOp2 pIx (eVar 1) (eC (.int 2))))) (eVar 13)) (aNil))))
theorem len_wv (ws : List (List Cell)) : pLen (wv ws) = some (.int ws.length) := by unfold wv wq; rw [sq_len, List.length_map]
theorem ext_l {mB sB : Nat} {B : List (List Cell)} {cb : Cell} {p : Nat × Nat} (hp1 : p.1 ≤ 8) (hp2 : p.2 ≤ 8) (hm : mB ≤ 8) (hk : B.length ≤ 8) (hc : cb.length ≤ 8) (x0 x2 x4 x5 x6 x7 x8 x9 : SV) :
    lE [x0, .fz (lv mB sB B), x2, .fz (cv cb), x4, x5, x6, x7, x8, x9, .fz (.int p.1), .fz (.int p.2), .un, .un] = .ret ((cb.map fun q => (p.1 * mB + q.1, p.2 * B.length + q.2)).map pr, [x0, .fz (lv mB sB B), x2, .fz (cv cb), x4, x5, x6, x7, x8, x9, .fz (.int p.1), .fz (.int p.2), .un, .un]) := by
  have lB := len_wv B
  have m1 : pMul (.int (p.1 : Int)) (.int mB) = some (.int ((p.1 * mB : Nat) : Int)) := mul_small (by omega) (by omega)
  have m2 : pMul (.int (p.2 : Int)) (.int B.length) = some (.int ((p.2 * B.length : Nat) : Int)) := mul_small (by omega) (by omega)
  have q : lE [x0, .fz (lv mB sB B), x2, .fz (cv cb), x4, x5, x6, x7, x8, x9, .fz (.int p.1), .fz (.int p.2), .un, .un] = .ret (((cb.map pr).filter fun _ => true).map fun x => (match x with | .tup [.int c, .int d] => PV.tup [.int (p.1 * mB + c), .int (p.2 * B.length + d)] | _ => .non), [x0, .fz (lv mB sB B), x2, .fz (cv cb), x4, x5, x6, x7, x8, x9, .fz (.int p.1), .fz (.int p.2), .un, .un]) := by
    refine lLc_gen (fun ρ => ∃ c d, ρ = [x0, .fz (lv mB sB B), x2, .fz (cv cb), x4, x5, x6, x7, x8, x9, .fz (.int p.1), .fz (.int p.2), c, d]) _ _ (by simp [cv, items]) (by rw [List.length_map]; exact sl_le (by omega)) rfl ⟨_, _, rfl⟩ (fun x hx ρ1 ⟨c, d, e⟩ => ?_) fun ρ1 ⟨c, d, e⟩ => by rw [e]; rfl
    obtain ⟨q, hq, rfl⟩ := List.mem_map.mp hx
    subst e
    refine ⟨[x0, .fz (lv mB sB B), x2, .fz (cv cb), x4, x5, x6, x7, x8, x9, .fz (.int p.1), .fz (.int p.2), .fz (.int q.1), .fz (.int q.2)], rfl, ⟨_, _, rfl⟩, rfl, fun _ => ?_⟩
    simp [m1, m2, lB, pAdd, pr]
  rw [q, filter_all fun _ _ => rfl, List.map_map, List.map_map]
  congr 2
def bX : GS := sFor (gT [10, 11]) (iSeq (eVar 2)) (sExtO 9 (eLst lE))
theorem x_ok {mA mB sB n : Nat} {B : List (List Cell)} {ca cb : Cell} (oa : CellOk mA n ca) (ob : CellOk mB B.length cb) (ha : mA ≤ 8) (hb : mB ≤ 8) (hn : n ≤ 8) (hk : B.length ≤ 8) (x0 x4 x5 x6 x7 x8 x10 x11 : SV) :
    ∃ y10 y11, bX [x0, .fz (lv mB sB B), .fz (cv ca), .fz (cv cb), x4, x5, x6, x7, x8, .ow [], x10, x11, .un, .un] = .ret (.nx [x0, .fz (lv mB sB B), .fz (cv ca), .fz (cv cb), x4, x5, x6, x7, x8, .ow ((pc mB B.length ca cb).map pr), y10, y11, .un, .un]) := by
  have la := oa.len
  have lb := ob.len
  obtain ⟨ρ', ⟨y10, y11, e⟩, h⟩ := for_det (f := gT [10, 11]) (g := sExtO 9 (eLst lE)) (fun j ρ => ∃ y10 y11, ρ = [x0, .fz (lv mB sB B), .fz (cv ca), .fz (cv cb), x4, x5, x6, x7, x8, .ow ((pc mB B.length (ca.take j) cb).map pr), y10, y11, .un, .un]) (ca.map pr) 0 [x0, .fz (lv mB sB B), .fz (cv ca), .fz (cv cb), x4, x5, x6, x7, x8, .ow [], x10, x11, .un, .un] ⟨x10, x11, by simp [pc]⟩ fun j x hx ρ1 ⟨y10, y11, e⟩ => by
    obtain ⟨p, hm, hj, rfl⟩ := map_at hx
    subst e
    rw [Nat.zero_add]
    have hp8 := small_p oa ha hn hm
    refine ⟨[x0, .fz (lv mB sB B), .fz (cv ca), .fz (cv cb), x4, x5, x6, x7, x8, .ow ((pc mB B.length (ca.take j) cb).map pr), .fz (.int p.1), .fz (.int p.2), .un, .un], _, rfl, ?_, .fz (.int p.1), .fz (.int p.2), rfl⟩
    have lz : (pc mB B.length (ca.take j) cb).length ≤ 100 := by
      unfold pc
      rw [fm_len, List.length_take]
      have := Nat.mul_le_mul (show min j ca.length ≤ 8 by omega) lb
      omega
    have ec : pc mB B.length (ca.take (j + 1)) cb = pc mB B.length (ca.take j) cb ++ cb.map fun q => (p.1 * mB + q.1, p.2 * B.length + q.2) := by
      unfold pc
      rw [take_one hj, List.flatMap_append, List.flatMap_cons, List.flatMap_nil, List.append_nil]
    have q := ext_l (sB := sB) (B := B) hp8.1 hp8.2 hb hk lb x0 (.fz (cv ca)) x4 x5 x6 x7 x8 (.ow ((pc mB B.length (ca.take j) cb).map pr))
    rw [ec, List.map_append]
    have l2 : (cb.map fun q => (p.1 * mB + q.1, p.2 * B.length + q.2)).length ≤ 8 := by rw [List.length_map]; exact lb
    generalize cb.map (fun q => (p.1 * mB + q.1, p.2 * B.length + q.2)) = c2 at *
    generalize pc mB B.length (ca.take j) cb = c1 at *
    have o : ownAt [x0, .fz (lv mB sB B), .fz (cv ca), .fz (cv cb), x4, x5, x6, x7, x8, .ow (c1.map pr), .fz (.int p.1), .fz (.int p.2), .un, .un] 9 = true := rfl
    have ev : extV (.lst none (c2.map pr)) (some (.ow (c1.map pr))) = some (c1.map pr ++ c2.map pr) := by
      unfold extV
      dsimp only
      rw [if_pos (by rw [List.length_map, List.length_map, sizeLine_eq]; omega)]
    rw [c_sExtO, if_pos o, c_eLst, q]
    simp only [Wp.ret_bind, List.getElem?_cons_succ, List.getElem?_cons_zero, ev]
    rfl
  rw [Nat.zero_add, List.length_map, List.take_length] at e
  subst e
  refine ⟨y10, y11, ?_⟩
  have i1 : items (cv ca) = some (ca.map pr) := rfl
  unfold bX
  rw [c_sFor, c_iSeq]
  simp only [c_eVar', List.getElem?_cons_succ, List.getElem?_cons_zero, Wp.ret_bind, i1, lift']
  exact h
def bY : GS := sSeq (sOwn 9 (lDisp (aNil))) (sSeq bX (sPub 9 (sAppO 8 (eOp1 pTuple (eVar 9)))))
theorem y_ok {mA mB sB n : Nat} {B : List (List Cell)} {ca cb : Cell} (oa : CellOk mA n ca) (ob : CellOk mB B.length cb) (ha : mA ≤ 8) (hb : mB ≤ 8) (hn : n ≤ 8) (hk : B.length ≤ 8) (R : List PV) (hR : R.length ≤ 1000) (x0 x4 x5 x6 x7 x9 x10 x11 : SV) :
    ∃ y9 y10 y11, bY [x0, .fz (lv mB sB B), .fz (cv ca), .fz (cv cb), x4, x5, x6, x7, .ow R, x9, x10, x11, .un, .un] = .ret (.nx [x0, .fz (lv mB sB B), .fz (cv ca), .fz (cv cb), x4, x5, x6, x7, .ow (R ++ [cv (pc mB B.length ca cb)]), y9, y10, y11, .un, .un]) := by
  obtain ⟨y10, y11, q⟩ := x_ok (sB := sB) oa ob ha hb hn hk x0 x4 x5 x6 x7 (.ow R) x10 x11
  refine ⟨.fz (.lst none ((pc mB B.length ca cb).map pr)), y10, y11, ?_⟩
  have lz : R.length < sizeLine := by rw [sizeLine_eq]; omega
  unfold bY
  rw [c_sSeq]
  simp only [c_sOwn, c_lDisp, c_aNil, Wp.ret_bind, List.length_nil, Nat.zero_le, if_true, Wp.run_ret, List.set_cons_succ, List.set_cons_zero]
  rw [c_sSeq, q]
  simp only [Wp.ret_bind]
  rw [c_sPub]
  simp only [List.getElem?_cons_succ, List.getElem?_cons_zero, List.set_cons_succ, List.set_cons_zero]
  have o : ∀ y : SV, ownAt [x0, .fz (lv mB sB B), .fz (cv ca), .fz (cv cb), x4, x5, x6, x7, .ow R, y, y10, y11, .un, .un] 8 = true := fun _ => rfl
  rw [c_sAppO, if_pos (o _), c_eOp1]
  simp only [c_eVar', List.getElem?_cons_succ, List.getElem?_cons_zero, Wp.ret_bind, pTuple, lift]
  rw [if_pos lz]
  rfl
theorem y_loop {mA mB sB n : Nat} {B : List (List Cell)} {ca : Cell} {rb : List Cell} (oa : CellOk mA n ca) (ob : ∀ cb ∈ rb, CellOk mB B.length cb) (ha : mA ≤ 8) (hb : mB ≤ 8) (hn : n ≤ 8) (hk : B.length ≤ 8) (hrb : rb.length ≤ 8) (R : List PV) (hR : R.length ≤ 900) (x0 x3 x4 x5 x6 x7 x9 x10 x11 : SV) :
    ∃ y3 y9 y10 y11, forLoop (gN 3) bY (rb.map cv) [x0, .fz (lv mB sB B), .fz (cv ca), x3, x4, x5, x6, x7, .ow R, x9, x10, x11, .un, .un] = .ret (.nx [x0, .fz (lv mB sB B), .fz (cv ca), y3, x4, x5, x6, x7, .ow (R ++ rb.map fun cb => cv (pc mB B.length ca cb)), y9, y10, y11, .un, .un]) := by
  obtain ⟨ρ', ⟨y3, y9, y10, y11, e⟩, h⟩ := for_det (f := gN 3) (g := bY) (fun j ρ => ∃ y3 y9 y10 y11, ρ = [x0, .fz (lv mB sB B), .fz (cv ca), y3, x4, x5, x6, x7, .ow (R ++ (rb.take j).map fun cb => cv (pc mB B.length ca cb)), y9, y10, y11, .un, .un]) (rb.map cv) 0 [x0, .fz (lv mB sB B), .fz (cv ca), x3, x4, x5, x6, x7, .ow R, x9, x10, x11, .un, .un] ⟨x3, x9, x10, x11, by simp⟩ fun j x hx ρ1 ⟨y3, y9, y10, y11, e⟩ => by
    obtain ⟨cb, hm, hj, rfl⟩ := map_at hx
    subst e
    rw [Nat.zero_add]
    have lz : (R ++ (rb.take j).map fun cb => cv (pc mB B.length ca cb)).length ≤ 1000 := by
      rw [List.length_append, List.length_map, List.length_take]; omega
    obtain ⟨z9, z10, z11, q⟩ := y_ok (sB := sB) oa (ob cb hm) ha hb hn hk _ lz x0 x4 x5 x6 x7 y9 y10 y11
    refine ⟨_, _, rfl, q, .fz (cv cb), z9, z10, z11, ?_⟩
    rw [take_one hj, List.map_append, List.map_singleton, List.append_assoc]
  rw [Nat.zero_add, List.length_map, List.take_length] at e
  subst e
  exact ⟨y3, y9, y10, y11, h⟩
def bZ : GS := sFor (gN 3) (iSeq (eOp2 pIx (eOp2 pIx (eVar 1) (eC (.int 2))) (eVar 7))) bY
theorem z_loop {mA mB sB n v : Nat} {B : List (List Cell)} {ra : List Cell} (oa : ∀ ca ∈ ra, CellOk mA n ca) (oB : Ok mB sB B) (hv : v < B.length) (ha : mA ≤ 8) (hn : n ≤ 8) (hra : ra.length ≤ 8) (x0 x2 x3 x4 x5 x6 x9 x10 x11 : SV) :
    ∃ y2 y3 y9 y10 y11, forLoop (gN 2) bZ (ra.map cv) [x0, .fz (lv mB sB B), x2, x3, x4, x5, x6, .fz (.int v), .ow [], x9, x10, x11, .un, .un] = .ret (.nx [x0, .fz (lv mB sB B), y2, y3, x4, x5, x6, .fz (.int v), .ow ((pRow mB B.length ra (B.getD v [])).map cv), y9, y10, y11, .un, .un]) := by
  have hb := oB.m8
  have hk := oB.n8
  have hrow := ok_rows oB (B.getD v []) (getD_mem hv)
  have ix := row_at true B hv
  generalize hrb : B.getD v [] = rb at *
  obtain ⟨ρ', ⟨y2, y3, y9, y10, y11, e⟩, h⟩ := for_det (f := gN 2) (g := bZ) (fun j ρ => ∃ y2 y3 y9 y10 y11, ρ = [x0, .fz (lv mB sB B), y2, y3, x4, x5, x6, .fz (.int v), .ow ((ra.take j).flatMap fun ca => rb.map fun cb => cv (pc mB B.length ca cb)), y9, y10, y11, .un, .un]) (ra.map cv) 0 [x0, .fz (lv mB sB B), x2, x3, x4, x5, x6, .fz (.int v), .ow [], x9, x10, x11, .un, .un] ⟨x2, x3, x9, x10, x11, by simp⟩ fun j x hx ρ1 ⟨y2, y3, y9, y10, y11, e⟩ => by
    obtain ⟨ca, hm, hj, rfl⟩ := map_at hx
    subst e
    rw [Nat.zero_add]
    have lz : ((ra.take j).flatMap fun ca => rb.map fun cb => cv (pc mB B.length ca cb)).length ≤ 900 := by
      rw [fm_len, List.length_take]
      have := Nat.mul_le_mul (show min j ra.length ≤ 8 by omega) hrow.1
      omega
    obtain ⟨z3, z9, z10, z11, q⟩ := y_loop (sB := sB) (oa ca hm) hrow.2 ha hb hn hk hrow.1 _ lz x0 y3 x4 x5 x6 (.fz (.int v)) y9 y10 y11
    refine ⟨[x0, .fz (lv mB sB B), .fz (cv ca), y3, x4, x5, x6, .fz (.int v), .ow ((ra.take j).flatMap fun ca => rb.map fun cb => cv (pc mB B.length ca cb)), y9, y10, y11, .un, .un], _, rfl, ?_, .fz (cv ca), z3, z9, z10, z11, rfl⟩
    rw [take_one hj, List.flatMap_append, List.flatMap_cons, List.flatMap_nil, List.append_nil]
    generalize (ra.take j).flatMap (fun ca => rb.map fun cb => cv (pc mB B.length ca cb)) = R1 at *
    have i1 : items (sq true (rb.map cv)) = some (rb.map cv) := rfl
    have ix' : pIx (wv B) (.int v) = some (sq true (rb.map cv)) := ix
    unfold bZ
    rw [c_sFor, c_iSeq, c_eOp2, c_eOp2]
    simp only [c_eVar', c_eC, List.getElem?_cons_succ, List.getElem?_cons_zero, Wp.ret_bind, lv_2, lift, ix', i1, lift']
    exact q
  rw [Nat.zero_add, List.length_map, List.take_length] at e
  subst e
  refine ⟨y2, y3, y9, y10, y11, ?_⟩
  have er : (pRow mB B.length ra rb).map cv = ra.flatMap fun ca => rb.map fun cb => cv (pc mB B.length ca cb) := by
    unfold pRow
    rw [List.map_flatMap]
    simp only [List.map_map, Function.comp_def]
  rw [er]
  exact h
end k05

set_option Elab.async false
set_option linter.all false
set_option maxRecDepth 100000
set_option maxHeartbeats 1000000
namespace k05
open PySem PySem.Spec PyProof.Rows L2 VL
def bV : GS := sSeq (sOwn 8 (lDisp (aNil))) (sSeq (sFor (gN 2) (iSeq (eOp2 pIx (eOp2 pIx (eVar 0) (eC (.int 2))) (eVar 6))) bZ) (sPub 8 (sAppO 5 (eOp1 pTuple (eVar 8)))))
theorem v_ok {mA sA mB sB u v : Nat} {A B : List (List Cell)} (oA : Ok mA sA A) (oB : Ok mB sB B) (hu : u < A.length) (hv : v < B.length) (W : List PV) (hW : W.length ≤ 1000) (x2 x3 x4 x8 x9 x10 x11 : SV) :
    ∃ y2 y3 y8 y9 y10 y11, bV [.fz (lv mA sA A), .fz (lv mB sB B), x2, x3, x4, .ow W, .fz (.int u), .fz (.int v), x8, x9, x10, x11, .un, .un] = .ret (.nx [.fz (lv mA sA A), .fz (lv mB sB B), y2, y3, x4, .ow (W ++ [rq true (pRow mB B.length (A.getD u []) (B.getD v []))]), .fz (.int u), .fz (.int v), y8, y9, y10, y11, .un, .un]) := by
  have hrow := ok_rows oA (A.getD u []) (getD_mem hu)
  have ix := row_at true A hu
  generalize hra : A.getD u [] = ra at *
  obtain ⟨y2, y3, y9, y10, y11, q⟩ := z_loop (sB := sB) hrow.2 oB hv oA.m8 oA.n8 hrow.1 (.fz (lv mA sA A)) x2 x3 x4 (.ow W) (.fz (.int u)) x9 x10 x11
  generalize hR : pRow mB B.length ra (B.getD v []) = R at *
  refine ⟨y2, y3, .fz (.lst none (R.map cv)), y9, y10, y11, ?_⟩
  have lz : W.length < sizeLine := by rw [sizeLine_eq]; omega
  have i1 : items (sq true (ra.map cv)) = some (ra.map cv) := rfl
  have ix' : pIx (wv A) (.int u) = some (sq true (ra.map cv)) := ix
  unfold bV
  rw [c_sSeq]
  simp only [c_sOwn, c_lDisp, c_aNil, Wp.ret_bind, List.length_nil, Nat.zero_le, if_true, Wp.run_ret, List.set_cons_succ, List.set_cons_zero]
  rw [c_sSeq, c_sFor, c_iSeq, c_eOp2, c_eOp2]
  simp only [c_eVar', c_eC, List.getElem?_cons_succ, List.getElem?_cons_zero, Wp.ret_bind, lv_2, lift, ix', i1, lift']
  rw [q]
  simp only [Wp.ret_bind]
  rw [c_sPub]
  simp only [List.getElem?_cons_succ, List.getElem?_cons_zero, List.set_cons_succ, List.set_cons_zero]
  have o : ∀ y : SV, ownAt [.fz (lv mA sA A), .fz (lv mB sB B), y2, y3, x4, .ow W, .fz (.int u), .fz (.int v), y, y9, y10, y11, .un, .un] 5 = true := fun _ => rfl
  rw [c_sAppO, if_pos (o _), c_eOp1]
  simp only [c_eVar', List.getElem?_cons_succ, List.getElem?_cons_zero, Wp.ret_bind, pTuple, lift]
  rw [if_pos lz]
  rfl
theorem range_take {n j : Nat} (h : j < n) : ((List.range n).take (j + 1)) = (List.range n).take j ++ [j] := take_one (by rw [List.getElem?_range h])
theorem v_loop {mA sA mB sB u : Nat} {A B : List (List Cell)} (oA : Ok mA sA A) (oB : Ok mB sB B) (hu : u < A.length) (W : List PV) (hW : W.length ≤ 900) (x2 x3 x4 x7 x8 x9 x10 x11 : SV) :
    ∃ y2 y3 y7 y8 y9 y10 y11, forLoop (gN 7) bV ((List.range B.length).map fun (k : Nat) => PV.int k) [.fz (lv mA sA A), .fz (lv mB sB B), x2, x3, x4, .ow W, .fz (.int u), x7, x8, x9, x10, x11, .un, .un] = .ret (.nx [.fz (lv mA sA A), .fz (lv mB sB B), y2, y3, x4, .ow (W ++ B.map fun rb => rq true (pRow mB B.length (A.getD u []) rb)), .fz (.int u), y7, y8, y9, y10, y11, .un, .un]) := by
  have nB := oB.n8
  obtain ⟨ρ', ⟨y2, y3, y7, y8, y9, y10, y11, e⟩, h⟩ := for_det (f := gN 7) (g := bV) (fun j ρ => ∃ y2 y3 y7 y8 y9 y10 y11, ρ = [.fz (lv mA sA A), .fz (lv mB sB B), y2, y3, x4, .ow (W ++ (B.take j).map fun rb => rq true (pRow mB B.length (A.getD u []) rb)), .fz (.int u), y7, y8, y9, y10, y11, .un, .un]) ((List.range B.length).map fun (k : Nat) => PV.int k) 0 [.fz (lv mA sA A), .fz (lv mB sB B), x2, x3, x4, .ow W, .fz (.int u), x7, x8, x9, x10, x11, .un, .un] ⟨x2, x3, x7, x8, x9, x10, x11, by simp⟩ fun j x hx ρ1 ⟨y2, y3, y7, y8, y9, y10, y11, e⟩ => by
    obtain ⟨hj, rfl⟩ := range_at hx
    subst e
    rw [Nat.zero_add]
    have lz : (W ++ (B.take j).map fun rb => rq true (pRow mB B.length (A.getD u []) rb)).length ≤ 1000 := by
      rw [List.length_append, List.length_map, List.length_take]; omega
    obtain ⟨z2, z3, z8, z9, z10, z11, q⟩ := v_ok oA oB hu hj _ lz y2 y3 x4 y8 y9 y10 y11
    refine ⟨_, _, rfl, q, z2, z3, .fz (.int j), z8, z9, z10, z11, ?_⟩
    rw [take_one (List.getElem?_eq_getElem hj), List.map_append, List.map_singleton, List.append_assoc]
    rw [show B.getD j [] = B[j] by rw [List.getD_eq_getElem?_getD, List.getElem?_eq_getElem hj]; rfl]
  rw [Nat.zero_add, List.length_map, List.length_range, List.take_length] at e
  subst e
  exact ⟨y2, y3, y7, y8, y9, y10, y11, h⟩
def bU : GS := sFor (gN 7) (iRng (eOp1 pLen (eOp2 pIx (eVar 1) (eC (.int 2))))) bV
theorem u_loop {mA sA mB sB : Nat} {A B : List (List Cell)} (oA : Ok mA sA A) (oB : Ok mB sB B) (x2 x3 x4 x6 x7 x8 x9 x10 x11 : SV) :
    ∃ y2 y3 y6 y7 y8 y9 y10 y11, forLoop (gN 6) bU ((List.range A.length).map fun (k : Nat) => PV.int k) [.fz (lv mA sA A), .fz (lv mB sB B), x2, x3, x4, .ow [], x6, x7, x8, x9, x10, x11, .un, .un] = .ret (.nx [.fz (lv mA sA A), .fz (lv mB sB B), y2, y3, x4, .ow ((besW mB A B).map (rq true)), y6, y7, y8, y9, y10, y11, .un, .un]) := by
  have nA := oA.n8
  have nB := oB.n8
  have lB := len_wv B
  have rB : iRange (.int (B.length : Int)) = some ((List.range B.length).map fun (k : Nat) => PV.int k) := iRange_len (sl_le (by omega))
  obtain ⟨ρ', ⟨y2, y3, y6, y7, y8, y9, y10, y11, e⟩, h⟩ := for_det (f := gN 6) (g := bU) (fun j ρ => ∃ y2 y3 y6 y7 y8 y9 y10 y11, ρ = [.fz (lv mA sA A), .fz (lv mB sB B), y2, y3, x4, .ow ((A.take j).flatMap fun ra => B.map fun rb => rq true (pRow mB B.length ra rb)), y6, y7, y8, y9, y10, y11, .un, .un]) ((List.range A.length).map fun (k : Nat) => PV.int k) 0 [.fz (lv mA sA A), .fz (lv mB sB B), x2, x3, x4, .ow [], x6, x7, x8, x9, x10, x11, .un, .un] ⟨x2, x3, x6, x7, x8, x9, x10, x11, by simp⟩ fun j x hx ρ1 ⟨y2, y3, y6, y7, y8, y9, y10, y11, e⟩ => by
    obtain ⟨hj, rfl⟩ := range_at hx
    subst e
    rw [Nat.zero_add]
    have lz : ((A.take j).flatMap fun ra => B.map fun rb => rq true (pRow mB B.length ra rb)).length ≤ 900 := by
      rw [fm_len, List.length_take]
      have := Nat.mul_le_mul (show min j A.length ≤ 8 by omega) nB
      omega
    obtain ⟨z2, z3, z7, z8, z9, z10, z11, q⟩ := v_loop oA oB hj _ lz y2 y3 x4 y7 y8 y9 y10 y11
    refine ⟨[.fz (lv mA sA A), .fz (lv mB sB B), y2, y3, x4, .ow ((A.take j).flatMap fun ra => B.map fun rb => rq true (pRow mB B.length ra rb)), .fz (.int j), y7, y8, y9, y10, y11, .un, .un], _, rfl, ?_, z2, z3, .fz (.int j), z7, z8, z9, z10, z11, rfl⟩
    rw [take_one (List.getElem?_eq_getElem hj), List.flatMap_append, List.flatMap_cons, List.flatMap_nil, List.append_nil]
    rw [show A.getD j [] = A[j] by rw [List.getD_eq_getElem?_getD, List.getElem?_eq_getElem hj]; rfl] at q
    generalize (A.take j).flatMap (fun ra => B.map fun rb => rq true (pRow mB B.length ra rb)) = W at *
    unfold bU
    rw [c_sFor, c_iRng, c_eOp1, c_eOp2]
    simp only [c_eVar', c_eC, List.getElem?_cons_succ, List.getElem?_cons_zero, Wp.ret_bind, lv_2, lift, lB, rB, lift']
    exact q
  rw [Nat.zero_add, List.length_map, List.length_range, List.take_length] at e
  subst e
  refine ⟨y2, y3, y6, y7, y8, y9, y10, y11, ?_⟩
  have er : (besW mB A B).map (rq true) = A.flatMap fun ra => B.map fun rb => rq true (pRow mB B.length ra rb) := by
    unfold besW
    rw [List.map_flatMap]
    simp only [List.map_map, Function.comp_def]
  rw [er]
  exact h
def dueV : Due → PV
  | .many c => .lst none [.str "many", .int c]
  | .line m s ws => .lst none [.str "told", lv m s ws]
def bChk : GS := sIf (gBl (eOp2 pGt (eOp2 pMul (eVar 2) (eVar 3)) (eVar 4))) (sRet (eLst (lDisp (aCons (eC (.str "many")) (aCons (eOp2 pMul (eVar 2) (eVar 3)) (aNil)))))) (sNil)
def iChk : GI := iSeq (eLst (lDisp (aCons (eTup (aCons (eOp2 pIx (eVar 0) (eC (.int 1))) (aCons (eOp2 pIx (eVar 1) (eC (.int 1))) (aCons (eC (.int 6)) (aNil))))) (aCons (eTup (aCons (eOp2 pIx (eVar 0) (eC (.int 0))) (aCons (eOp2 pIx (eVar 1) (eC (.int 0))) (aCons (eC (.int 8)) (aNil))))) (aCons (eTup (aCons (eOp1 pLen (eOp2 pIx (eVar 0) (eC (.int 2)))) (aCons (eOp1 pLen (eOp2 pIx (eVar 1) (eC (.int 2)))) (aCons (eC (.int 8)) (aNil))))) (aNil))))))
theorem ldue_eq : m__law_due = fnV 14 noPin (sSeq (sFor (gT [2, 3, 4]) iChk bChk) (sSeq (sOwn 5 (lDisp (aNil))) (sSeq (sFor (gN 6) (iRng (eOp1 pLen (eOp2 pIx (eVar 0) (eC (.int 2))))) bU) (sPub 5 (sRet (eLst (lDisp (aCons (eC (.str "told")) (aCons (eLst (lDisp (aCons (eOp2 pMul (eOp2 pIx (eVar 0) (eC (.int 0))) (eOp2 pIx (eVar 1) (eC (.int 0)))) (aCons (eOp2 pMul (eOp2 pIx (eVar 0) (eC (.int 1))) (eOp2 pIx (eVar 1) (eC (.int 1)))) (aCons (eOp1 pTuple (eVar 5)) (aNil)))))) (aNil)))))))))) := rfl
theorem chk_no {a b m : Nat} {rest : List SV} {x0 x1 : SV} (ha : a ≤ 8) (hb : b ≤ 8) (h : a * b ≤ m) : bChk (x0 :: x1 :: .fz (.int a) :: .fz (.int b) :: .fz (.int m) :: rest) = .ret (.nx (x0 :: x1 :: .fz (.int a) :: .fz (.int b) :: .fz (.int m) :: rest)) := by
  have q : pMul (.int (a : Int)) (.int b) = some (.int ((a * b : Nat) : Int)) := mul_small (by omega) (by omega)
  generalize a * b = c at *
  have e : pGt (.int (c : Int)) (.int m) = some (.bl false) := by simp [pGt]; omega
  simp [bChk, q, e]
theorem chk_yes {a b m : Nat} {rest : List SV} {x0 x1 : SV} (ha : a ≤ 8) (hb : b ≤ 8) (h : ¬ a * b ≤ m) : bChk (x0 :: x1 :: .fz (.int a) :: .fz (.int b) :: .fz (.int m) :: rest) = .ret (.rt (.lst none [.str "many", .int ((a * b : Nat) : Int)]) (x0 :: x1 :: .fz (.int a) :: .fz (.int b) :: .fz (.int m) :: rest)) := by
  have q : pMul (.int (a : Int)) (.int b) = some (.int ((a * b : Nat) : Int)) := mul_small (by omega) (by omega)
  generalize a * b = c at *
  have e : pGt (.int (c : Int)) (.int m) = some (.bl true) := by simp [pGt]; omega
  simp [bChk, q, e]
theorem ldue_ok {mA sA mB sB : Nat} {A B : List (List Cell)} (oA : Ok mA sA A) (oB : Ok mB sB B) : m__law_due [.fz (lv mA sA A), .fz (lv mB sB B)] = .ret (dueV (due mA sA A mB sB B), [.un, .un]) := by
  rw [ldue_eq, fnV_eq rfl]
  unfold due
  have nA := oA.n8
  have nB := oB.n8
  have mA8 := oA.m8
  have mB8 := oB.m8
  have sA6 := oA.s6
  have sB6 := oB.s6
  have lA := len_wv A
  have lB := len_wv B
  have q1 : pMul (.int (sA : Int)) (.int sB) = some (.int ((sA * sB : Nat) : Int)) := mul_small (by omega) (by omega)
  have q2 : pMul (.int (mA : Int)) (.int mB) = some (.int ((mA * mB : Nat) : Int)) := mul_small (by omega) (by omega)
  have rA : iRange (.int (A.length : Int)) = some ((List.range A.length).map fun (k : Nat) => PV.int k) := iRange_len (sl_le (by omega))
  have ic : iChk [.fz (lv mA sA A), .fz (lv mB sB B), .un, .un, .un, .un, .un, .un, .un, .un, .un, .un, .un, .un] = .ret ([.tup [.int sA, .int sB, .int ((6 : Nat) : Int)], .tup [.int mA, .int mB, .int ((8 : Nat) : Int)], .tup [.int A.length, .int B.length, .int ((8 : Nat) : Int)]], [.fz (lv mA sA A), .fz (lv mB sB B), .un, .un, .un, .un, .un, .un, .un, .un, .un, .un, .un, .un]) := by
    simp [iChk, lA, lB, items]
  have g3 : ∀ (a b m : PV) (x0 x1 x2 x3 x4 : SV) (rest : List SV), gT [2, 3, 4] (.tup [a, b, m]) (x0 :: x1 :: x2 :: x3 :: x4 :: rest) = some (x0 :: x1 :: .fz a :: .fz b :: .fz m :: rest) := fun _ _ _ _ _ _ _ _ _ => rfl
  show ((((sSeq (sFor (gT [2, 3, 4]) iChk bChk) _) [.fz (lv mA sA A), .fz (lv mB sB B), .un, .un, .un, .un, .un, .un, .un, .un, .un, .un, .un, .un]).mapE _).bind _) = _
  rw [c_sSeq, c_sFor, ic]
  simp only [Wp.ret_bind]
  unfold forLoop
  rw [g3]
  dsimp only
  by_cases h1 : sA * sB ≤ 6
  · rw [chk_no (by omega) (by omega) h1, if_neg (not_not_intro h1)]
    simp only [Wp.ret_bind]
    unfold forLoop
    rw [g3]
    dsimp only
    by_cases h2 : mA * mB ≤ 8
    · rw [chk_no (by omega) (by omega) h2, if_neg (not_not_intro h2)]
      simp only [Wp.ret_bind]
      unfold forLoop
      rw [g3]
      dsimp only
      by_cases h3 : A.length * B.length ≤ 8
      · rw [chk_no (by omega) (by omega) h3, if_neg (not_not_intro h3)]
        simp only [Wp.ret_bind]
        unfold forLoop
        obtain ⟨y2, y3, y6, y7, y8, y9, y10, y11, f⟩ := u_loop oA oB (.fz (.int A.length)) (.fz (.int B.length)) (.fz (.int ((8 : Nat) : Int))) .un .un .un .un .un .un
        have ew : PV.tup ((besW mB A B).map (rq true)) = wv (besW mB A B) := rfl
        generalize (besW mB A B).map (rq true) = L1 at f ew
        generalize mA * mB = mm at *
        generalize sA * sB = ss at *
        rw [show ((8 : Nat) : Int) = 8 from rfl] at f
        simp [lA, rA, f, q1, q2, pTuple, ew, lv_eq, dueV, outs, SV.own]
      · rw [chk_yes (by omega) (by omega) h3, if_pos h3]
        generalize A.length * B.length = nn
        simp [dueV, outs, SV.own]
    · rw [chk_yes (by omega) (by omega) h2, if_pos h2]
      generalize mA * mB = nn
      simp [dueV, outs, SV.own]
  · rw [chk_yes (by omega) (by omega) h1, if_pos h1]
    generalize sA * sB = nn
    simp [dueV, outs, SV.own]
def toldV : Due → PV
  | .many c => .lst none [.str "many", .int c]
  | .line m s ws => .lst none [.str "told", ov m s ws]
def bAsk : GS := sRet (eLst (lDisp (aCons (eC (.str "told")) (aCons (eIf (gVal (eVar 2)) (eCallK m_lines_beside [1, 0] (aCons (eVar 1) (aCons (eVar 0) (aNil)))) (eCall m_lines_beside (aCons (eVar 0) (aCons (eVar 1) (aNil))))) (aNil)))))
theorem asked_eq : m__law_asked = fnV 4 noPin (sTry exT [⟨4, some 3, .many [.c (.str "many"), .f "count"]⟩, ⟨0, none, .many [.c (.str "another error")]⟩] bAsk) := rfl
theorem asked_ok {mA sA mB sB : Nat} {A B : List (List Cell)} (oA : Ok mA sA A) (oB : Ok mB sB B) (named : Bool) : m__law_asked [.fz (ov mA sA A), .fz (ov mB sB B), .fz (.bl named)] = .ret (toldV (due mA sA A mB sB B), [.un, .un, .un]) := by
  rw [asked_eq, fnV_eq rfl]
  have t := bes_ok oA oB
  have pm : perm .non [1, 0] [ov mB sB B, ov mA sA A] = [ov mA sA A, ov mB sB B] := rfl
  cases hd : due mA sA A mB sB B with
  | many c =>
    rw [hd] at t
    have g : bAsk [.fz (ov mA sA A), .fz (ov mB sB B), .fz (.bl named), .un] = .raise (⟨4, [("count", .int c)]⟩, [.fz (ov mA sA A), .fz (ov mB sB B), .fz (.bl named), .un]) := by cases named <;> simp [bAsk, truth, fzs, pm, t]
    have q := try_raise (ex := exT) (hs := [⟨4, some 3, .many [.c (.str "many"), .f "count"]⟩, ⟨0, none, .many [.c (.str "another error")]⟩]) g (v := .lst none [.str "many", .int c]) (by rfl)
    simp [q, toldV, outs, SV.own]
  | line m s ws =>
    rw [hd] at t
    have g : bAsk [.fz (ov mA sA A), .fz (ov mB sB B), .fz (.bl named), .un] = .ret (.rt (.lst none [.str "told", ov m s ws]) [.fz (ov mA sA A), .fz (ov mB sB B), .fz (.bl named), .un]) := by cases named <;> simp [bAsk, truth, fzs, pm, t]
    have q := try_ret (ex := exT) (hs := [⟨4, some 3, .many [.c (.str "many"), .f "count"]⟩, ⟨0, none, .many [.c (.str "another error")]⟩]) g
    simp [q, toldV, outs, SV.own]
end k05

set_option Elab.async false
set_option linter.all false
set_option maxRecDepth 100000
set_option maxHeartbeats 1000000
namespace k05
open PySem PySem.Spec PyProof.Rows L2 VL
/-! ### two lines drawn -/
def PrN (n : Nat) (x : PV) : Prop := ∃ a b : Nat, x = .tup [.int a, .int b] ∧ 1 ≤ a ∧ a ≤ n ∧ 1 ≤ b ∧ b ≤ n
def tO : GE := (eLst (lDisp (aCons (eTup (aCons (eC (.int 3)) (aCons (eC (.int 3)) (aNil)))) (aCons (eTup (aCons (eC (.int 2)) (aCons (eC (.int 5)) (aNil)))) (aCons (eTup (aCons (eC (.int 5)) (aCons (eC (.int 2)) (aNil)))) (aCons (eTup (aCons (eC (.int 4)) (aCons (eC (.int 3)) (aNil)))) (aCons (eTup (aCons (eC (.int 8)) (aCons (eC (.int 2)) (aNil)))) (aCons (eTup (aCons (eC (.int 4)) (aCons (eC (.int 4)) (aNil)))) (aCons (eTup (aCons (eC (.int 8)) (aCons (eC (.int 8)) (aNil)))) (aNil))))))))))
def vO : List PV := [.tup [.int 3, .int 3], .tup [.int 2, .int 5], .tup [.int 5, .int 2], .tup [.int 4, .int 3], .tup [.int 8, .int 2], .tup [.int 4, .int 4], .tup [.int 8, .int 8]]
theorem tO_eq (ρ : Env') : tO ρ = .ret (.lst none vO, ρ) := by simp [tO, vO]
theorem vO_ok : ∀ x ∈ vO, PrN 8 x := by
  intro x hx
  simp only [vO, List.mem_cons, List.not_mem_nil, or_false] at hx
  rcases hx with rfl | rfl | rfl | rfl | rfl | rfl | rfl
  · exact ⟨3, 3, rfl, by decide, by decide, by decide, by decide⟩
  · exact ⟨2, 5, rfl, by decide, by decide, by decide, by decide⟩
  · exact ⟨5, 2, rfl, by decide, by decide, by decide, by decide⟩
  · exact ⟨4, 3, rfl, by decide, by decide, by decide, by decide⟩
  · exact ⟨8, 2, rfl, by decide, by decide, by decide, by decide⟩
  · exact ⟨4, 4, rfl, by decide, by decide, by decide, by decide⟩
  · exact ⟨8, 8, rfl, by decide, by decide, by decide, by decide⟩
def tS : GE := (eLst (lDisp (aCons (eTup (aCons (eC (.int 1)) (aCons (eC (.int 1)) (aNil)))) (aCons (eTup (aCons (eC (.int 2)) (aCons (eC (.int 2)) (aNil)))) (aCons (eTup (aCons (eC (.int 2)) (aCons (eC (.int 3)) (aNil)))) (aCons (eTup (aCons (eC (.int 3)) (aCons (eC (.int 2)) (aNil)))) (aCons (eTup (aCons (eC (.int 1)) (aCons (eC (.int 6)) (aNil)))) (aCons (eTup (aCons (eC (.int 6)) (aCons (eC (.int 1)) (aNil)))) (aCons (eTup (aCons (eC (.int 1)) (aCons (eC (.int 4)) (aNil)))) (aCons (eTup (aCons (eC (.int 5)) (aCons (eC (.int 1)) (aNil)))) (aNil)))))))))))
def vS : List PV := [.tup [.int 1, .int 1], .tup [.int 2, .int 2], .tup [.int 2, .int 3], .tup [.int 3, .int 2], .tup [.int 1, .int 6], .tup [.int 6, .int 1], .tup [.int 1, .int 4], .tup [.int 5, .int 1]]
theorem tS_eq (ρ : Env') : tS ρ = .ret (.lst none vS, ρ) := by simp [tS, vS]
theorem vS_ok : ∀ x ∈ vS, PrN 6 x := by
  intro x hx
  simp only [vS, List.mem_cons, List.not_mem_nil, or_false] at hx
  rcases hx with rfl | rfl | rfl | rfl | rfl | rfl | rfl | rfl
  · exact ⟨1, 1, rfl, by decide, by decide, by decide, by decide⟩
  · exact ⟨2, 2, rfl, by decide, by decide, by decide, by decide⟩
  · exact ⟨2, 3, rfl, by decide, by decide, by decide, by decide⟩
  · exact ⟨3, 2, rfl, by decide, by decide, by decide, by decide⟩
  · exact ⟨1, 6, rfl, by decide, by decide, by decide, by decide⟩
  · exact ⟨6, 1, rfl, by decide, by decide, by decide, by decide⟩
  · exact ⟨1, 4, rfl, by decide, by decide, by decide, by decide⟩
  · exact ⟨5, 1, rfl, by decide, by decide, by decide, by decide⟩
def tR : GE := (eLst (lDisp (aCons (eTup (aCons (eC (.int 2)) (aCons (eC (.int 4)) (aNil)))) (aCons (eTup (aCons (eC (.int 3)) (aCons (eC (.int 3)) (aNil)))) (aCons (eTup (aCons (eC (.int 4)) (aCons (eC (.int 2)) (aNil)))) (aCons (eTup (aCons (eC (.int 2)) (aCons (eC (.int 5)) (aNil)))) (aCons (eTup (aCons (eC (.int 6)) (aCons (eC (.int 2)) (aNil)))) (aCons (eTup (aCons (eC (.int 6)) (aCons (eC (.int 6)) (aNil)))) (aNil)))))))))
def vR : List PV := [.tup [.int 2, .int 4], .tup [.int 3, .int 3], .tup [.int 4, .int 2], .tup [.int 2, .int 5], .tup [.int 6, .int 2], .tup [.int 6, .int 6]]
theorem tR_eq (ρ : Env') : tR ρ = .ret (.lst none vR, ρ) := by simp [tR, vR]
theorem vR_ok : ∀ x ∈ vR, PrN 6 x := by
  intro x hx
  simp only [vR, List.mem_cons, List.not_mem_nil, or_false] at hx
  rcases hx with rfl | rfl | rfl | rfl | rfl | rfl
  · exact ⟨2, 4, rfl, by decide, by decide, by decide, by decide⟩
  · exact ⟨3, 3, rfl, by decide, by decide, by decide, by decide⟩
  · exact ⟨4, 2, rfl, by decide, by decide, by decide, by decide⟩
  · exact ⟨2, 5, rfl, by decide, by decide, by decide, by decide⟩
  · exact ⟨6, 2, rfl, by decide, by decide, by decide, by decide⟩
  · exact ⟨6, 6, rfl, by decide, by decide, by decide, by decide⟩
def tM : GE := (eLst (lDisp (aCons (eTup (aCons (eC (.int 1)) (aCons (eC (.int 1)) (aNil)))) (aCons (eTup (aCons (eC (.int 2)) (aCons (eC (.int 2)) (aNil)))) (aCons (eTup (aCons (eC (.int 2)) (aCons (eC (.int 3)) (aNil)))) (aCons (eTup (aCons (eC (.int 3)) (aCons (eC (.int 2)) (aNil)))) (aCons (eTup (aCons (eC (.int 2)) (aCons (eC (.int 4)) (aNil)))) (aCons (eTup (aCons (eC (.int 4)) (aCons (eC (.int 2)) (aNil)))) (aCons (eTup (aCons (eC (.int 1)) (aCons (eC (.int 8)) (aNil)))) (aCons (eTup (aCons (eC (.int 8)) (aCons (eC (.int 1)) (aNil)))) (aCons (eTup (aCons (eC (.int 1)) (aCons (eC (.int 5)) (aNil)))) (aCons (eTup (aCons (eC (.int 7)) (aCons (eC (.int 1)) (aNil)))) (aNil)))))))))))))
def vM : List PV := [.tup [.int 1, .int 1], .tup [.int 2, .int 2], .tup [.int 2, .int 3], .tup [.int 3, .int 2], .tup [.int 2, .int 4], .tup [.int 4, .int 2], .tup [.int 1, .int 8], .tup [.int 8, .int 1], .tup [.int 1, .int 5], .tup [.int 7, .int 1]]
theorem tM_eq (ρ : Env') : tM ρ = .ret (.lst none vM, ρ) := by simp [tM, vM]
theorem vM_ok : ∀ x ∈ vM, PrN 8 x := by
  intro x hx
  simp only [vM, List.mem_cons, List.not_mem_nil, or_false] at hx
  rcases hx with rfl | rfl | rfl | rfl | rfl | rfl | rfl | rfl | rfl | rfl
  · exact ⟨1, 1, rfl, by decide, by decide, by decide, by decide⟩
  · exact ⟨2, 2, rfl, by decide, by decide, by decide, by decide⟩
  · exact ⟨2, 3, rfl, by decide, by decide, by decide, by decide⟩
  · exact ⟨3, 2, rfl, by decide, by decide, by decide, by decide⟩
  · exact ⟨2, 4, rfl, by decide, by decide, by decide, by decide⟩
  · exact ⟨4, 2, rfl, by decide, by decide, by decide, by decide⟩
  · exact ⟨1, 8, rfl, by decide, by decide, by decide, by decide⟩
  · exact ⟨8, 1, rfl, by decide, by decide, by decide, by decide⟩
  · exact ⟨1, 5, rfl, by decide, by decide, by decide, by decide⟩
  · exact ⟨7, 1, rfl, by decide, by decide, by decide, by decide⟩
def tK : GE := (eLst (lDisp (aCons (eTup (aCons (eC (.int 1)) (aCons (eC (.int 1)) (aNil)))) (aCons (eTup (aCons (eC (.int 2)) (aCons (eC (.int 2)) (aNil)))) (aCons (eTup (aCons (eC (.int 2)) (aCons (eC (.int 3)) (aNil)))) (aCons (eTup (aCons (eC (.int 3)) (aCons (eC (.int 2)) (aNil)))) (aCons (eTup (aCons (eC (.int 2)) (aCons (eC (.int 4)) (aNil)))) (aCons (eTup (aCons (eC (.int 4)) (aCons (eC (.int 2)) (aNil)))) (aCons (eTup (aCons (eC (.int 1)) (aCons (eC (.int 8)) (aNil)))) (aCons (eTup (aCons (eC (.int 8)) (aCons (eC (.int 1)) (aNil)))) (aCons (eTup (aCons (eC (.int 1)) (aCons (eC (.int 2)) (aNil)))) (aCons (eTup (aCons (eC (.int 2)) (aCons (eC (.int 1)) (aNil)))) (aNil)))))))))))))
def vK : List PV := [.tup [.int 1, .int 1], .tup [.int 2, .int 2], .tup [.int 2, .int 3], .tup [.int 3, .int 2], .tup [.int 2, .int 4], .tup [.int 4, .int 2], .tup [.int 1, .int 8], .tup [.int 8, .int 1], .tup [.int 1, .int 2], .tup [.int 2, .int 1]]
theorem tK_eq (ρ : Env') : tK ρ = .ret (.lst none vK, ρ) := by simp [tK, vK]
theorem vK_ok : ∀ x ∈ vK, PrN 8 x := by
  intro x hx
  simp only [vK, List.mem_cons, List.not_mem_nil, or_false] at hx
  rcases hx with rfl | rfl | rfl | rfl | rfl | rfl | rfl | rfl | rfl | rfl
  · exact ⟨1, 1, rfl, by decide, by decide, by decide, by decide⟩
  · exact ⟨2, 2, rfl, by decide, by decide, by decide, by decide⟩
  · exact ⟨2, 3, rfl, by decide, by decide, by decide, by decide⟩
  · exact ⟨3, 2, rfl, by decide, by decide, by decide, by decide⟩
  · exact ⟨2, 4, rfl, by decide, by decide, by decide, by decide⟩
  · exact ⟨4, 2, rfl, by decide, by decide, by decide, by decide⟩
  · exact ⟨1, 8, rfl, by decide, by decide, by decide, by decide⟩
  · exact ⟨8, 1, rfl, by decide, by decide, by decide, by decide⟩
  · exact ⟨1, 2, rfl, by decide, by decide, by decide, by decide⟩
  · exact ⟨2, 1, rfl, by decide, by decide, by decide, by decide⟩
def tFlaw : GE := (eOp2 pIx (eLst (lDisp (aCons (eC (.int 0)) (aCons (eC (.int 0)) (aCons (eC (.int 0)) (aCons (eC (.int 1)) (aCons (eC (.int 2)) (aCons (eC (.int 4)) (aCons (eOp2 pAdd (eC (.int 1)) (eCallB mTake 0 (aCons (eC (.int 7)) (aNil)))) (aCons (eOp2 pAdd (eC (.int 3)) (eOp2 pMul (eC (.int 4)) (eCallB mTake 0 (aCons (eC (.int 2)) (aNil))))) (aNil))))))))))) (eCallB mTake 0 (aCons (eC (.int 8)) (aNil))))
def tRet : GS := sRet (eLst (lLc [6] (iRng (eC (.int 2))) (gN 6) (gYes) (eCallB m__law_any_line 0 (aCons (eOp2 pIx (eVar 3) (eVar 6)) (aCons (eOp2 pIx (eVar 4) (eVar 6)) (aCons (eOp2 pIx (eVar 5) (eVar 6)) (aNil)))))))
theorem lines_eq : m__law_lines = fnV 7 pin0 (sSeq (sSet 1 tFlaw) (sSeq (sSet 2 tO) (sSeq (sSet 3 (eCallB m__law_sizes 0 (aCons (eOp2 pEq (eOp2 pMod (eOp1 pInt (eVar 1)) (eC (.int 2))) (eC (.int 1))) (aCons tS (aCons tR (aNil)))))) (sSeq (sSet 4 (eCallB m__law_sizes 0 (aCons (eOp2 pEq (eOp2 pMod (eOp1 pInt (eOp2 pFdiv (eVar 1) (eC (.int 2)))) (eC (.int 2))) (eC (.int 1))) (aCons tM (aCons (eVar 2) (aNil)))))) (sSeq (sSet 5 (eCallB m__law_sizes 0 (aCons (eOp2 pEq (eOp2 pMod (eOp1 pInt (eOp2 pFdiv (eVar 1) (eC (.int 4)))) (eC (.int 2))) (eC (.int 1))) (aCons tK (aCons (eVar 2) (aNil)))))) tRet))))) := rfl
theorem sizes_eq : m__law_sizes = fnV 4 pin0 (sRet (eIf (gVal (eVar 1)) (eOp2 pIx (eVar 3) (eCallB mTake 0 (aCons (eOp1 pLen (eVar 3)) (aNil)))) (eOp2 pIx (eVar 2) (eCallB mTake 0 (aCons (eOp1 pLen (eVar 2)) (aNil)))))) := rfl
theorem sizes_run {b n : Nat} {f : Bool} {G H : List PV} (hG : ∀ x ∈ G, PrN n x) (hH : ∀ x ∈ H, PrN n x) (g1 : 1 ≤ G.length) (h1 : 1 ≤ H.length) (g2 : G.length ≤ 100) (h2 : H.length ≤ 100) (hb : b < 1000000000) {K : PV × List SV → Prop} {E : Ex × List SV → Prop}
    (hK : ∀ x, PrN n x → K (x, [.bx (b + 1), .un, .un, .un])) : (m__law_sizes [.bx b, .fz (.bl f), .fz (.lst none G), .fz (.lst none H)]).run K E := by
  rw [sizes_eq, fnV_eq rfl]
  refine run_of ?_
  rw [run_map]
  cases f with
  | true =>
    have t := take_val (ρ := [SV.bx b, .fz (.bl true), .fz (.lst none G), .fz (.lst none H)]) (j := 0) (n := b) (m := H.length) (g := eOp1 pLen (eVar 3)) (by simp [pLen]) rfl (by omega) (by omega) (by omega)
    show ((sRet _) [SV.bx b, .fz (.bl true), .fz (.lst none G), .fz (.lst none H)]).run _ _
    rw [c_sRet, c_eIf, c_gVal]
    simp only [c_eVar', List.getElem?_cons_succ, List.getElem?_cons_zero, Wp.ret_bind, truth, if_true]
    rw [c_eOp2]
    simp only [c_eVar', List.getElem?_cons_succ, List.getElem?_cons_zero, Wp.ret_bind]
    rw [t]
    simp only [all_bind, Wp.ret_bind, all_run, List.set_cons_zero]
    intro d hd
    obtain ⟨x, e, px⟩ := tab hH hd.1 hd.2
    rw [e]
    exact hK x px
  | false =>
    have t := take_val (ρ := [SV.bx b, .fz (.bl false), .fz (.lst none G), .fz (.lst none H)]) (j := 0) (n := b) (m := G.length) (g := eOp1 pLen (eVar 2)) (by simp [pLen]) rfl (by omega) (by omega) (by omega)
    show ((sRet _) [SV.bx b, .fz (.bl false), .fz (.lst none G), .fz (.lst none H)]).run _ _
    rw [c_sRet, c_eIf, c_gVal]
    simp only [c_eVar', List.getElem?_cons_succ, List.getElem?_cons_zero, Wp.ret_bind, truth, Bool.false_eq_true, if_false]
    rw [c_eOp2]
    simp only [c_eVar', List.getElem?_cons_succ, List.getElem?_cons_zero, Wp.ret_bind]
    rw [t]
    simp only [all_bind, Wp.ret_bind, all_run, List.set_cons_zero]
    intro d hd
    obtain ⟨x, e, px⟩ := tab hG hd.1 hd.2
    rw [e]
    exact hK x px
theorem flaw_run {b : Nat} {rest : List SV} (hb : b < 1000000000) {K : PV × Env' → Prop} {E : XE' → Prop} (hK : ∀ f : Int, K (.int f, .bx (b + 3) :: rest)) : (tFlaw (.bx b :: rest)).run K E := by
  have t1 : eCallB mTake 0 (aCons (eC (.int 7)) aNil) (.bx b :: rest) = _ := take_at rfl (by omega) (by omega) (by omega)
  have t2 : eCallB mTake 0 (aCons (eC (.int 2)) aNil) (.bx (b + 1) :: rest) = _ := take_at rfl (by omega) (by omega) (by omega)
  have t3 : eCallB mTake 0 (aCons (eC (.int 8)) aNil) (.bx (b + 1 + 1) :: rest) = _ := take_at rfl (by omega) (by omega) (by omega)
  unfold tFlaw
  rw [c_eOp2, c_eLst, c_lDisp]
  simp only [c_aCons, c_eC, Wp.ret_bind, c_eOp2 (f2 := pAdd), c_eOp2 (f2 := pMul)]
  rw [t1]
  simp only [all_bind, Wp.ret_bind, all_run, List.set_cons_zero, pAdd, lift]
  intro d1 hd1
  rw [t2]
  simp only [all_bind, Wp.ret_bind, all_run, List.set_cons_zero]
  intro d2 hd2
  have m : pMul (.int 4) (.int d2) = some (.int (4 * d2)) := mul_ok (by decide) (by omega)
  simp only [m, lift, Wp.ret_bind, pAdd, c_aNil, List.length_cons, List.length_nil, sl_le, Nat.reduceLeDiff, Nat.reduceAdd, if_true]
  rw [t3]
  simp only [all_bind, Wp.ret_bind, all_run, List.set_cons_zero]
  intro d3 hd3
  obtain ⟨x, e, f, rfl⟩ := tab (xs := [.int 0, .int 0, .int 0, .int 1, .int 2, .int 4, .int (1 + d1), .int (3 + 4 * d2)]) (P := fun x => ∃ f : Int, x = .int f) (fun x hx => by
    simp only [List.mem_cons, List.not_mem_nil, or_false] at hx
    rcases hx with rfl | rfl | rfl | rfl | rfl | rfl | rfl | rfl <;> exact ⟨_, rfl⟩) hd3.1 hd3.2
  rw [e]
  exact hK f
theorem two_ix {a b : Nat} {k : Nat} (h : k < 2) : ∃ x : Nat, pIx (.tup [.int a, .int b]) (.int k) = some (.int x) ∧ (x = a ∨ x = b) := by
  rcases (show k = 0 ∨ k = 1 by omega) with rfl | rfl
  · exact ⟨a, atI_nat' (k := 0) rfl, .inl rfl⟩
  · exact ⟨b, atI_nat' (k := 1) rfl, .inr rfl⟩
theorem lines_run {b : Nat} (hb : b < 100000000) {K : PV × List SV → Prop} {E : Ex × List SV → Prop}
    (hK : ∀ mA sA A mB sB B b', b' ≤ b + 2000 → Ok mA sA A → Ok mB sB B → K (.lst none [lv mA sA A, lv mB sB B], [.bx b'])) : (m__law_lines [.bx b]).run K E := by
  rw [lines_eq, fnV_eq rfl]
  refine run_of ?_
  rw [run_map, c_sSeq]
  refine run_of ?_
  show ((sSet 1 tFlaw) [SV.bx b, .un, .un, .un, .un, .un, .un]).run _ _
  rw [c_sSet]
  refine run_of (flaw_run (by omega) fun f => ?_)
  simp only [Wp.run_ret, List.set_cons_succ, List.set_cons_zero]
  rw [c_sSeq, c_sSet, tO_eq]
  simp only [Wp.ret_bind, Wp.run_ret, List.set_cons_succ, List.set_cons_zero]
  have p1 : pMod (.int f) (.int 2) = some (.int (f % 2)) := mod_ok (by decide)
  have p2 : pFdiv (.int f) (.int 2) = some (.int (f / 2)) := fdiv_ok (by decide) (by decide)
  have p3 : pMod (.int (f / 2)) (.int 2) = some (.int (f / 2 % 2)) := mod_ok (by decide)
  have p4 : pFdiv (.int f) (.int 4) = some (.int (f / 4)) := fdiv_ok (by decide) (by decide)
  have p5 : pMod (.int (f / 4)) (.int 2) = some (.int (f / 4 % 2)) := mod_ok (by decide)
  rw [c_sSeq, c_sSet]
  refine run_of (run_of (boxed_run (n := b + 3) rfl (v := [.bl (decide (f % 2 = 1)), .lst none vS, .lst none vR]) (by simp [pInt, p1, pEq_int, tS_eq, tR_eq]) (sizes_run vS_ok vR_ok (by decide) (by decide) (by decide) (by decide) (by omega) fun x ⟨sA, sB, e, a1, a2, b1, b2⟩ => ?_)))
  subst e
  simp only [Wp.run_ret, List.set_cons_succ, List.set_cons_zero, List.headD_cons]
  rw [c_sSeq, c_sSet]
  refine run_of (run_of (boxed_run (n := b + 3 + 1) rfl (v := [.bl (decide (f / 2 % 2 = 1)), .lst none vM, .lst none vO]) (by simp [pInt, p2, p3, pEq_int, tM_eq]) (sizes_run vM_ok vO_ok (by decide) (by decide) (by decide) (by decide) (by omega) fun x ⟨mA, mB, e, c1, c2, d1, d2⟩ => ?_)))
  subst e
  simp only [Wp.run_ret, List.set_cons_succ, List.set_cons_zero, List.headD_cons]
  rw [c_sSeq, c_sSet]
  refine run_of (run_of (boxed_run (n := b + 3 + 1 + 1) rfl (v := [.bl (decide (f / 4 % 2 = 1)), .lst none vK, .lst none vO]) (by simp [pInt, p4, p5, pEq_int, tK_eq]) (sizes_run vK_ok vO_ok (by decide) (by decide) (by decide) (by decide) (by omega) fun x ⟨kA, kB, e, e1, e2, f1, f2⟩ => ?_)))
  subst e
  simp only [Wp.run_ret, List.set_cons_succ, List.set_cons_zero, List.headD_cons]
  have rg : iRange (.int 2) = some [.int 0, .int 1] := iRange_len (n := 2) (sl_le (by decide))
  unfold tRet
  rw [c_sRet, c_eLst]
  refine run_of (run_of ?_)
  refine lLc_inv (xs := [.int ((0 : Nat) : Int), .int ((1 : Nat) : Int)]) (fun i acc ρ => ∃ (b' : Nat) (x6 : SV), x6.own = false ∧ b' ≤ b + 6 + 528 * i ∧ acc.length = i ∧ (∀ x ∈ acc, ∃ m s ws, x = lv m s ws ∧ Ok m s ws) ∧
    ρ = [.bx b', .fz (.int f), .fz (.lst none vO), .fz (.tup [.int sA, .int sB]), .fz (.tup [.int mA, .int mB]), .fz (.tup [.int kA, .int kB]), x6]) (by rw [c_iRng, c_eC, Wp.ret_bind, rg]; rfl) (sl_le (by decide)) rfl ⟨b + 3 + 1 + 1 + 1, .un, rfl, by omega, rfl, (fun _ z => nomatch z), rfl⟩ (fun i x hx acc ρ1 ⟨b', x6, o6, hb', hl, hal, e⟩ => ?_) fun ys ρ' ⟨b', x6, o6, hb', hl, hal, e⟩ => ?_
  · obtain ⟨hi, hxe⟩ : i < 2 ∧ x = .int i := by
      rcases i with _ | _ | i
      · exact ⟨by decide, (Option.some.inj hx).symm⟩
      · exact ⟨by decide, (Option.some.inj hx).symm⟩
      · simp at hx
    subst hxe
    subst e
    obtain ⟨s, hs, hs2⟩ := two_ix (a := sA) (b := sB) hi
    obtain ⟨m, hm, hm2⟩ := two_ix (a := mA) (b := mB) hi
    obtain ⟨k, hk, hk2⟩ := two_ix (a := kA) (b := kB) hi
    refine ⟨[.bx b', .fz (.int f), .fz (.lst none vO), .fz (.tup [.int sA, .int sB]), .fz (.tup [.int mA, .int mB]), .fz (.tup [.int kA, .int kB]), .fz (.int i)], true, rfl, rfl, (fun z => by cases z), fun _ {K E} hK => ?_⟩
    refine boxed_run (n := b') rfl (v := [.int s, .int m, .int k]) (by simp [hs, hm, hk]) (any_run (by omega) (by omega) (by omega) (by omega) (by omega) (by omega) (by omega) fun ws b2 hb2 o => ?_)
    refine hK _ _ ⟨b2, .fz (.int i), rfl, by omega, by simp; omega, (fun x hx => ?_), rfl⟩
    rcases List.mem_append.mp hx with z | z
    · exact hal x z
    · exact ⟨m, s, ws, List.mem_singleton.mp z, o⟩
  · match ys, hl with
    | [x, y], _ =>
      obtain ⟨m, s, ws, rfl, oA⟩ := hal x (by simp)
      obtain ⟨m2, s2, ws2, rfl, oB⟩ := hal y (by simp)
      subst e
      have := hK m s ws m2 s2 ws2 b' (by simp at hb'; omega) oA oB
      simp [backE, outs, SV.own]
      exact this
end k05

set_option Elab.async false
set_option linter.all false
set_option maxRecDepth 100000
set_option maxHeartbeats 1000000
namespace k05
open PySem PySem.Spec PyProof.Rows L2 VL
/-! ### the law's walk -/
theorem lk_filter (c : Cell) (y : Nat) : ((c.filter fun p => decide (p.1 = y)).map fun p => (p.2 : Nat)).head? = lk c y := by
  unfold lk
  induction c with
  | nil => rfl
  | cons p c ih =>
    rw [List.filter_cons, List.find?_cons]
    by_cases e : p.1 = y
    · simp [e]
    · simp only [e, decide_false, Bool.false_eq_true, if_false]; exact ih
def somes (c : Cell) (y : Nat) : List PV := (c.filter fun p => decide (p.1 = y)).map fun p => .int p.2
theorem some_ok {c : Cell} {y : Nat} {x0 x1 x2 x4 : SV} {S : GE} (hc : c.length ≤ 8) (hS : S [x0, x1, x2, .fz (.int y), x4, .un, .un] = .ret (cv c, [x0, x1, x2, .fz (.int y), x4, .un, .un])) :
    lLc [5, 6] (iSeq S) (gT [5, 6]) (gBl (eOp2 pEq (eVar 5) (eVar 3))) (eVar 6) [x0, x1, x2, .fz (.int y), x4, .un, .un] = .ret (somes c y, [x0, x1, x2, .fz (.int y), x4, .un, .un]) := by
  have q : lLc [5, 6] (iSeq S) (gT [5, 6]) (gBl (eOp2 pEq (eVar 5) (eVar 3))) (eVar 6) [x0, x1, x2, .fz (.int y), x4, .un, .un] = .ret (((c.map pr).filter fun x => (match x with | .tup [.int a, _] => decide (a = (y : Int)) | _ => false)).map fun x => (match x with | .tup [_, b] => b | _ => .non), [x0, x1, x2, .fz (.int y), x4, .un, .un]) := by
    refine lLc_gen (fun ρ => ∃ a b, ρ = [x0, x1, x2, .fz (.int y), x4, a, b]) _ _ (by simp [hS, cv, items]) (by rw [List.length_map]; exact sl_le (by omega)) rfl ⟨_, _, rfl⟩ (fun x hx ρ1 ⟨a, b, e⟩ => ?_) fun ρ1 ⟨a, b, e⟩ => by rw [e]; rfl
    obtain ⟨p, hpm, rfl⟩ := List.mem_map.mp hx
    subst e
    refine ⟨[x0, x1, x2, .fz (.int y), x4, .fz (.int p.1), .fz (.int p.2)], rfl, ⟨_, _, rfl⟩, ?_, fun _ => rfl⟩
    simp [pr, pEq_int]
  rw [q]
  have e : (((c.map pr).filter fun x => (match x with | .tup [.int a, _] => decide (a = (y : Int)) | _ => false)).map fun x => (match x with | .tup [_, b] => b | _ => .non)) = somes c y := by
    unfold somes
    rw [List.filter_map, List.map_map]
    have e1 : ∀ p : Nat × Nat, (((fun x : PV => (match x with | .tup [.int a, _] => decide (a = (y : Int)) | _ => false)) ∘ pr) p) = decide (p.1 = y) := fun p => by
      simp only [Function.comp, pr]
      by_cases h : p.1 = y
      · rw [decide_eq_true h]; exact decide_eq_true (by omega)
      · rw [decide_eq_false h]; exact decide_eq_false (by omega)
    rw [List.filter_congr (fun p _ => e1 p)]
    exact List.map_congr_left fun p _ => rfl
  rw [e]
theorem somes_ne (c : Cell) (y : Nat) : pNe (.lst none (somes c y)) (.lst none []) = some (.bl (lk c y).isSome) := by
  have h := lk_filter c y
  have e : somes c y = ((c.filter fun p => decide (p.1 = y)).map fun p => (p.2 : Int)).map PV.int := by unfold somes; rw [List.map_map]; rfl
  show (eqB _ _).map (fun k => PV.bl (!k)) = _
  rw [e, eq_ints]
  cases hf : c.filter fun p => decide (p.1 = y) with
  | nil => rw [hf] at h; rw [← h]; rfl
  | cons x xs => rw [hf] at h; rw [← h]; rfl
theorem somes_ix {c : Cell} {y t : Nat} (h : lk c y = some t) : pIx (.lst none (somes c y)) (.int 0) = some (.int t) := by
  have h2 := lk_filter c y
  rw [h] at h2
  unfold somes
  cases hf : c.filter fun p => decide (p.1 = y) with
  | nil => rw [hf] at h2; cases h2
  | cons x xs =>
    rw [hf] at h2
    have : x.2 = t := Option.some.inj h2
    rw [← this]
    exact atI0 _ _
theorem after_ok {m s : Nat} {ws : List (List Cell)} (o : Ok m s ws) {u sg : Nat} (hu : u < ws.length) (hs : sg < s) (mk : Nat) : m__law_after [.fz (lv m s ws), .fz (.int u), .fz (.int sg), .fz (.int mk)] = .ret (oi (lk (cellAt ws u sg) mk), [.un, .un, .un, .un]) := by
  unfold m__law_after
  rw [fnV_eq rfl]
  obtain ⟨w, y1, y2⟩ := ix_wv o hu hs
  obtain ⟨co, _⟩ := cell_at o hu hs
  generalize cellAt ws u sg = c at *
  have q := some_ok (c := c) (y := mk) (x0 := .fz (lv m s ws)) (x1 := .fz (.int u)) (x2 := .fz (.int sg)) (x4 := .un) (S := (eOp2 pIx (eOp2 pIx (eOp2 pIx (eVar 0) (eC (.int 2))) (eVar 1)) (eVar 2))) co.len (by simp [y1, y2])
  have ne := somes_ne c mk
  cases hl : lk c mk with
  | none =>
    rw [hl] at ne
    simp [b__law_after, q, ne, oi, outs, SV.own]
  | some t =>
    rw [hl] at ne
    simp [b__law_after, q, ne, somes_ix hl, oi, outs, SV.own]
structure Ent where
  a : Nat
  b : Nat
  x : Nat
  y : Nat
def qv (e : Ent) : PV := .tup [.int e.a, .int e.b, .int e.x, .int e.y]
def eOk (sA sB mB : Nat) (e : Ent) : Prop := e.a < sA ∧ e.b < sB ∧ e.y < mB ∧ e.x ≤ 8
def walk (A B : List (List Cell)) : Nat → Nat → List Ent → Option (Nat × Nat)
  | u, v, [] => some (u, v)
  | u, v, e :: hs => match lk (cellAt A u e.a) e.x with
    | none => none
    | some u' => match lk (cellAt B v e.b) e.y with
      | none => none
      | some v' => walk A B u' v' hs
def bW : GS := sSeq (sPar 3 4 (eCall m__law_after (aCons (eVar 0) (aCons (eVar 3) (aCons (eVar 5) (aCons (eVar 7) (aNil)))))) (eCall m__law_after (aCons (eVar 1) (aCons (eVar 4) (aCons (eVar 6) (aCons (eVar 8) (aNil))))))) (sIf (gOr (gBl (eOp2 pIs (eVar 3) (eC .non))) (gBl (eOp2 pIs (eVar 4) (eC .non)))) (sRet (eC .non)) (sNil))
theorem w_loop {mA sA mB sB : Nat} {A B : List (List Cell)} (oA : Ok mA sA A) (oB : Ok mB sB B) (h : SV) : ∀ (hs : List Ent) (u v : Nat) (a5 a6 a7 a8 : SV), (∀ e ∈ hs, eOk sA sB mB e) → u < A.length → v < B.length →
    ∃ b3 b4 b5 b6 b7 b8, forLoop (gT [5, 6, 7, 8]) bW (hs.map qv) [.fz (lv mA sA A), .fz (lv mB sB B), h, .fz (.int u), .fz (.int v), a5, a6, a7, a8] = match walk A B u v hs with
      | none => .ret (.rt .non [.fz (lv mA sA A), .fz (lv mB sB B), h, b3, b4, b5, b6, b7, b8])
      | some (u', v') => .ret (.nx [.fz (lv mA sA A), .fz (lv mB sB B), h, .fz (.int (u' : Nat)), .fz (.int (v' : Nat)), b5, b6, b7, b8])
  | [], u, v, a5, a6, a7, a8, _, _, _ => ⟨.un, .un, a5, a6, a7, a8, rfl⟩
  | e :: hs, u, v, a5, a6, a7, a8, he, hu, hv => by
    obtain ⟨e1, e2, e3, e4⟩ := he e List.mem_cons_self
    have f1 := after_ok oA hu e1 e.x
    have f2 := after_ok oB hv e2 e.y
    have c1 := cell_at oA hu e1
    have c2 := cell_at oB hv e2
    have g : gT [5, 6, 7, 8] (qv e) [.fz (lv mA sA A), .fz (lv mB sB B), h, .fz (.int u), .fz (.int v), a5, a6, a7, a8] = some [.fz (lv mA sA A), .fz (lv mB sB B), h, .fz (.int u), .fz (.int v), .fz (.int e.a), .fz (.int e.b), .fz (.int e.x), .fz (.int e.y)] := rfl
    rw [List.map_cons]
    unfold forLoop walk
    rw [g]
    dsimp only
    cases hl : lk (cellAt A u e.a) e.x with
    | none =>
      rw [hl] at f1
      refine ⟨.fz .non, .fz (oi (lk (cellAt B v e.b) e.y)), .fz (.int e.a), .fz (.int e.b), .fz (.int e.x), .fz (.int e.y), ?_⟩
      simp [bW, sPar, fzs, f1, f2, oi, pIs]
    | some u' =>
      rw [hl] at f1
      cases hl2 : lk (cellAt B v e.b) e.y with
      | none =>
        rw [hl2] at f2
        refine ⟨.fz (.int u'), .fz .non, .fz (.int e.a), .fz (.int e.b), .fz (.int e.x), .fz (.int e.y), ?_⟩
        simp [bW, sPar, fzs, f1, f2, oi, pIs]
      | some v' =>
        rw [hl2] at f2
        obtain ⟨b3, b4, b5, b6, b7, b8, ih⟩ := w_loop oA oB h hs u' v' (.fz (.int e.a)) (.fz (.int e.b)) (.fz (.int e.x)) (.fz (.int e.y)) (fun x hx => he x (List.mem_cons_of_mem _ hx)) (lk_lt c1.1 hl) (lk_lt c2.1 hl2)
        refine ⟨b3, b4, b5, b6, b7, b8, ?_⟩
        have st : bW [.fz (lv mA sA A), .fz (lv mB sB B), h, .fz (.int u), .fz (.int v), .fz (.int e.a), .fz (.int e.b), .fz (.int e.x), .fz (.int e.y)] = .ret (.nx [.fz (lv mA sA A), .fz (lv mB sB B), h, .fz (.int u'), .fz (.int v'), .fz (.int e.a), .fz (.int e.b), .fz (.int e.x), .fz (.int e.y)]) := by simp [bW, sPar, fzs, f1, f2, oi, pIs]
        rw [st, Wp.ret_bind]
        exact ih
def hv (hs : List Ent) : PV := .lst none (hs.map qv)
theorem walked_eq : m__law_walked = fnV 9 noPin (sSeq (sTgt (gT [3, 4]) (eTup (aCons (eC (.int 0)) (aCons (eC (.int 0)) (aNil))))) (sSeq (sFor (gT [5, 6, 7, 8]) (iSeq (eVar 2)) bW) (sRet (eTup (aCons (eVar 3) (aCons (eVar 4) (aNil))))))) := rfl
def walkV : Option (Nat × Nat) → PV
  | none => .non
  | some (u, v) => .tup [.int u, .int v]
theorem walked_ok {mA sA mB sB : Nat} {A B : List (List Cell)} (oA : Ok mA sA A) (oB : Ok mB sB B) (hs : List Ent) (he : ∀ e ∈ hs, eOk sA sB mB e) : m__law_walked [.fz (lv mA sA A), .fz (lv mB sB B), .fz (hv hs)] = .ret (walkV (walk A B 0 0 hs), [.un, .un, .un]) := by
  rw [walked_eq, fnV_eq rfl]
  obtain ⟨b3, b4, b5, b6, b7, b8, e⟩ := w_loop oA oB (.fz (hv hs)) hs 0 0 .un .un .un .un he (by have := oA.n1; omega) (by have := oB.n1; omega)
  rw [show ((0 : Nat) : Int) = 0 from rfl] at e
  have i1 : items (hv hs) = some (hs.map qv) := rfl
  cases hw : walk A B 0 0 hs with
  | none =>
    rw [hw] at e
    simp [sTgt, gT, setAll, i1, e, walkV, outs, SV.own]
  | some uv =>
    rw [hw] at e
    simp [sTgt, gT, setAll, i1, e, walkV, outs, SV.own]
theorem walk_lt {mA sA mB sB : Nat} {A B : List (List Cell)} (oA : Ok mA sA A) (oB : Ok mB sB B) : ∀ (hs : List Ent) (u v u' v' : Nat), (∀ e ∈ hs, eOk sA sB mB e) → u < A.length → v < B.length → walk A B u v hs = some (u', v') → u' < A.length ∧ v' < B.length
  | [], u, v, u', v', _, hu, hv, h => by cases h; exact ⟨hu, hv⟩
  | e :: hs, u, v, u', v', he, hu, hv, h => by
    obtain ⟨e1, e2, e3, e4⟩ := he e List.mem_cons_self
    unfold walk at h
    cases hl : lk (cellAt A u e.a) e.x with
    | none => rw [hl] at h; cases h
    | some u1 =>
      rw [hl] at h
      cases hl2 : lk (cellAt B v e.b) e.y with
      | none => rw [hl2] at h; cases h
      | some v1 =>
        rw [hl2] at h
        exact walk_lt oA oB hs u1 v1 u' v' (fun x hx => he x (List.mem_cons_of_mem _ hx)) (lk_lt (cell_at oA hu e1).1 hl) (lk_lt (cell_at oB hv e2).1 hl2) h
/-! ### the joined line, walked -/
theorem fm_at {α β γ : Type} (ys : List β) (g : α → β → γ) {b : β} {v : Nat} (hv : ys[v]? = some b) : ∀ (xs : List α) (u : Nat) (a : α), xs[u]? = some a → (xs.flatMap fun a => ys.map (g a))[u * ys.length + v]? = some (g a b)
  | [], u, a, h => by simp at h
  | x :: xs, 0, a, h => by
    have hx : x = a := by simpa using h
    subst hx
    have hvl := (List.getElem?_eq_some_iff.mp hv).1
    rw [List.flatMap_cons, List.getElem?_append_left (by rw [List.length_map]; omega), Nat.zero_mul, Nat.zero_add, List.getElem?_map, hv]
    rfl
  | x :: xs, u + 1, a, h => by
    have ih := fm_at ys g hv xs u a (by simpa using h)
    rw [List.flatMap_cons, List.getElem?_append_right (by rw [List.length_map, Nat.succ_mul]; omega), List.length_map, Nat.succ_mul, show u * ys.length + ys.length + v - ys.length = u * ys.length + v by omega]
    exact ih
theorem bes_cell {mA sA mB sB : Nat} {A B : List (List Cell)} (oA : Ok mA sA A) (oB : Ok mB sB B) {u v a b : Nat} (hu : u < A.length) (hv : v < B.length) (ha : a < sA) (hb : b < sB) : cellAt (besW mB A B) (u * B.length + v) (a * sB + b) = pc mB B.length (cellAt A u a) (cellAt B v b) := by
  obtain ⟨_, ra, a1, a2⟩ := cell_at oA hu ha
  obtain ⟨_, rb, b1, b2⟩ := cell_at oB hv hb
  have lb : rb.length = sB := oB.row rb (List.mem_of_getElem? b1)
  have h1 : (besW mB A B)[u * B.length + v]? = some (pRow mB B.length ra rb) := fm_at B (fun ra rb => pRow mB B.length ra rb) b1 A u ra a1
  have h2 : (pRow mB B.length ra rb)[a * sB + b]? = some (pc mB B.length (cellAt A u a) (cellAt B v b)) := by
    have := fm_at rb (fun ca cb => pc mB B.length ca cb) b2 ra a _ a2
    rw [lb] at this
    exact this
  generalize cellAt A u a = ca at *
  generalize cellAt B v b = cb at *
  unfold cellAt
  rw [h1, Option.bind_some, h2]
  rfl
theorem lk_app (c d : Cell) (y : Nat) : lk (c ++ d) y = (lk c y).or (lk d y) := by
  unfold lk
  rw [List.find?_append]
  cases c.find? fun p => decide (p.1 = y) <;> rfl
theorem lk_none {c : Cell} {y : Nat} (h : ∀ p ∈ c, p.1 ≠ y) : lk c y = none := by
  unfold lk
  rw [List.find?_eq_none.mpr fun p hp => by simpa using h p hp]
  rfl
theorem enc_inj {a b x y m : Nat} (hb : b < m) (hy : y < m) (h : a * m + b = x * m + y) : a = x ∧ b = y := by
  rcases Nat.lt_trichotomy a x with c | c | c
  · have := Nat.mul_le_mul_right m (show a + 1 ≤ x from c)
    rw [Nat.succ_mul] at this
    omega
  · subst c; exact ⟨rfl, by omega⟩
  · have := Nat.mul_le_mul_right m (show x + 1 ≤ a from c)
    rw [Nat.succ_mul] at this
    omega
theorem lk_row {m k n : Nat} {cb : Cell} (ob : ∀ q ∈ cb, q.1 < m) {y : Nat} (hy : y < m) (p : Nat × Nat) (x : Nat) : lk (cb.map fun q => (p.1 * m + q.1, p.2 * k + q.2)) (x * m + y) = if p.1 = x then (lk cb y).map fun t => p.2 * k + t else none := by
  by_cases e : p.1 = x
  · rw [if_pos e]
    subst e
    unfold lk
    induction cb with
    | nil => rfl
    | cons q cb ih =>
      have ih := ih fun z hz => ob z (List.mem_cons_of_mem _ hz)
      rw [List.map_cons, List.find?_cons, List.find?_cons]
      by_cases e : q.1 = y
      · subst e; simp
      · have e1 : ¬ (p.1 * m + q.1 = p.1 * m + y) := by omega
        simp only [e, e1, decide_false]
        exact ih
  · rw [if_neg e]
    refine lk_none fun z hz => ?_
    obtain ⟨q, hq, rfl⟩ := List.mem_map.mp hz
    exact fun h => e (enc_inj (ob q hq) hy h).1
theorem lk_pc {m k : Nat} {cb : Cell} (ob : ∀ q ∈ cb, q.1 < m) {y : Nat} (hy : y < m) (x : Nat) : ∀ ca : Cell, lk (pc m k ca cb) (x * m + y) = (lk ca x).bind fun s => (lk cb y).map fun t => s * k + t
  | [] => rfl
  | p :: ca => by
    have ih := lk_pc (k := k) ob hy x ca
    unfold pc at ih ⊢
    rw [List.flatMap_cons, lk_app, lk_row (n := 0) ob hy p x, ih]
    have e0 : lk (p :: ca) x = if p.1 = x then some p.2 else lk ca x := by
      unfold lk
      rw [List.find?_cons]
      by_cases e : p.1 = x
      · simp [e]
      · simp only [e, decide_false, if_false]
    rw [e0]
    by_cases e : p.1 = x
    · rw [if_pos e, if_pos e, Option.bind_some]
      cases lk cb y with
      | none => cases lk ca x <;> rfl
      | some t => rfl
    · rw [if_neg e, if_neg e]
      rfl
def encE (sB mB : Nat) (e : Ent) : Nat × Nat := (e.a * sB + e.b, e.x * mB + e.y)
theorem go_bes {mA sA mB sB : Nat} {A B : List (List Cell)} (oA : Ok mA sA A) (oB : Ok mB sB B) : ∀ (hs : List Ent) (u v : Nat), (∀ e ∈ hs, eOk sA sB mB e) → u < A.length → v < B.length →
    goW (besW mB A B) (u * B.length + v) (hs.map (encE sB mB)) = (walk A B u v hs).map fun uv => uv.1 * B.length + uv.2
  | [], u, v, _, _, _ => rfl
  | e :: hs, u, v, he, hu, hv => by
    obtain ⟨e1, e2, e3, e4⟩ := he e List.mem_cons_self
    have cb := (cell_at oB hv e2).1
    have ca := (cell_at oA hu e1).1
    rw [List.map_cons]
    unfold goW walk
    rw [show (encE sB mB e).1 = e.a * sB + e.b from rfl, show (encE sB mB e).2 = e.x * mB + e.y from rfl, bes_cell oA oB hu hv e1 e2, lk_pc (fun q hq => (cb.lt q hq).1) e3]
    cases hl : lk (cellAt A u e.a) e.x with
    | none => rfl
    | some u' =>
      rw [Option.bind_some]
      cases hl2 : lk (cellAt B v e.b) e.y with
      | none => rfl
      | some v' => exact go_bes oA oB hs u' v' (fun x hx => he x (List.mem_cons_of_mem _ hx)) (lk_lt ca hl) (lk_lt cb hl2)
end k05

set_option Elab.async false
set_option linter.all false
set_option maxRecDepth 100000
set_option maxHeartbeats 1000000
namespace k05
open PySem PySem.Spec PyProof.Rows L2 VL
/-! ### a list drawn on both lines -/
def cA : GE := eOp2 pIx (eOp2 pIx (eOp2 pIx (eVar 1) (eC (.int 2))) (eVar 5)) (eVar 8)
def cB : GE := eOp2 pIx (eOp2 pIx (eOp2 pIx (eVar 2) (eC (.int 2))) (eVar 6)) (eVar 9)
def bH : GS := sSeq (sPar 8 9 (eCallB mTake 0 (aCons (eOp2 pIx (eVar 1) (eC (.int 1))) (aNil))) (eCallB mTake 0 (aCons (eOp2 pIx (eVar 2) (eC (.int 1))) (aNil)))) (sSeq (sTgt (gT [10, 11]) (eOp2 pIx cA (eCallB mTake 0 (aCons (eOp1 pLen cA) (aNil))))) (sSeq (sTgt (gT [12, 13]) (eOp2 pIx cB (eCallB mTake 0 (aCons (eOp1 pLen cB) (aNil))))) (sSeq (sAppO 4 (eTup (aCons (eVar 8) (aCons (eVar 9) (aCons (eVar 10) (aCons (eVar 12) (aNil))))))) (sPar 5 6 (eVar 11) (eVar 13)))))
theorem heard_eq : m__law_heard = fnV 14 pin0 (sSeq (sPar3L 4 5 6 (lDisp (aNil)) (eC (.int 0)) (eC (.int 0))) (sSeq (sFor (gN 7) (iRng (eVar 3)) bH) (sPub 4 (sRet (eVar 4))))) := rfl
theorem pick_cell {m n b : Nat} {c : Cell} {G : GE} {rest : List SV} (co : CellOk m n c) (hG : ∀ b, G (.bx b :: rest) = .ret (cv c, .bx b :: rest)) (hb : b < 1000000000) {K : PV × Env' → Prop} {E : XE' → Prop} (hK : ∀ p ∈ c, K (pr p, .bx (b + 1) :: rest)) :
    (eOp2 pIx G (eCallB mTake 0 (aCons (eOp1 pLen G) aNil)) (.bx b :: rest)).run K E := by
  have cl : pLen (cv c) = some (.int c.length) := by simp [cv, pLen]
  have cl1 : 0 < c.length := List.length_pos_iff.mpr co.ne
  have cl8 := co.len
  rw [c_eOp2, hG]
  simp only [Wp.ret_bind]
  rw [take_val (m := c.length) (by rw [c_eOp1, hG, Wp.ret_bind, cl]; rfl) rfl (by omega) (by omega) (by omega)]
  simp only [all_bind, Wp.ret_bind, all_run, List.set_cons_zero]
  intro q hq
  obtain ⟨q, rfl⟩ := Int.eq_ofNat_of_zero_le hq.1
  have hq2 : q < c.length := by omega
  have ix : pIx (cv c) (.int q) = some (pr c[q]) := by unfold cv; exact atI_nat' (by rw [List.getElem?_map, List.getElem?_eq_getElem hq2]; rfl)
  rw [ix]
  exact hK _ (List.getElem_mem hq2)
theorem h_step {mA sA mB sB b u v : Nat} {A B : List (List Cell)} (oA : Ok mA sA A) (oB : Ok mB sB B) (hu : u < A.length) (hv' : v < B.length) (hb : b < 100000000) {hs : List Ent} (hl : hs.length ≤ 1000) (x3 x7 a8 a9 a10 a11 a12 a13 : SV) {K : Out → Prop} {E : XE' → Prop}
    (hK : ∀ (e : Ent) u' v' b8 b9 b10 b11 b12 b13, eOk sA sB mB e → u' < A.length → v' < B.length → K (.nx [.bx (b + 4), .fz (lv mA sA A), .fz (lv mB sB B), x3, .ow ((hs ++ [e]).map qv), .fz (.int (u' : Nat)), .fz (.int (v' : Nat)), x7, b8, b9, b10, b11, b12, b13])) :
    (bH [.bx b, .fz (lv mA sA A), .fz (lv mB sB B), x3, .ow (hs.map qv), .fz (.int u), .fz (.int v), x7, a8, a9, a10, a11, a12, a13]).run K E := by
  have sA1 := oA.s1
  have sA6 := oA.s6
  have sB1 := oB.s1
  have sB6 := oB.s6
  have lz : (hs.map qv).length < sizeLine := by rw [List.length_map, sizeLine_eq]; omega
  unfold bH
  rw [c_sSeq]
  refine run_of ?_
  unfold sPar
  rw [take_val (ρ := [.bx b, .fz (lv mA sA A), .fz (lv mB sB B), x3, .ow (hs.map qv), .fz (.int u), .fz (.int v), x7, a8, a9, a10, a11, a12, a13]) (m := sA) (by simp) rfl (by omega) (by omega) (by omega)]
  simp only [all_bind, Wp.ret_bind, all_run, List.set_cons_zero]
  intro d1 hd1
  obtain ⟨d1, rfl⟩ := Int.eq_ofNat_of_zero_le hd1.1
  have hd1' : d1 < sA := by omega
  rw [take_val (ρ := [.bx (b + 1), .fz (lv mA sA A), .fz (lv mB sB B), x3, .ow (hs.map qv), .fz (.int u), .fz (.int v), x7, a8, a9, a10, a11, a12, a13]) (m := sB) (by simp) rfl (by omega) (by omega) (by omega)]
  simp only [all_bind, Wp.ret_bind, all_run, List.set_cons_zero]
  intro d2 hd2
  obtain ⟨d2, rfl⟩ := Int.eq_ofNat_of_zero_le hd2.1
  have hd2' : d2 < sB := by omega
  simp only [Wp.run_ret, List.set_cons_succ, List.set_cons_zero]
  obtain ⟨w1, y1, y2⟩ := ix_wv oA hu hd1'
  obtain ⟨w2, z1, z2⟩ := ix_wv oB hv' hd2'
  have ca := (cell_at oA hu hd1').1
  have cb := (cell_at oB hv' hd2').1
  generalize cellAt A u d1 = c1 at *
  generalize cellAt B v d2 = c2 at *
  rw [c_sSeq]
  refine run_of ?_
  unfold sTgt
  refine run_of (pick_cell ca (fun b => by
    simp only [cA, c_eOp2, c_eVar', c_eC, List.getElem?_cons_succ, List.getElem?_cons_zero, Wp.ret_bind, lv_2, lift, y1]
    rw [y2]) (by omega) fun p hp => ?_)
  have hp2 := ca.lt p hp
  show (match some [SV.bx (b + 1 + 1 + 1), .fz (lv mA sA A), .fz (lv mB sB B), x3, .ow (hs.map qv), .fz (.int u), .fz (.int v), x7, .fz (.int d1), .fz (.int d2), .fz (.int p.1), .fz (.int p.2), a12, a13] with
    | some ρ' => (.ret (.nx ρ') : Wp XE' Out)
    | none => .stuck).run _ E
  simp only [Wp.run_ret]
  rw [c_sSeq]
  refine run_of ?_
  refine run_of (pick_cell cb (fun b => by
    simp only [cB, c_eOp2, c_eVar', c_eC, List.getElem?_cons_succ, List.getElem?_cons_zero, Wp.ret_bind, lv_2, lift, z1]
    rw [z2]) (by omega) fun q hq => ?_)
  have hq2 := cb.lt q hq
  show (match some [SV.bx (b + 1 + 1 + 1 + 1), .fz (lv mA sA A), .fz (lv mB sB B), x3, .ow (hs.map qv), .fz (.int u), .fz (.int v), x7, .fz (.int d1), .fz (.int d2), .fz (.int p.1), .fz (.int p.2), .fz (.int q.1), .fz (.int q.2)] with
    | some ρ' => (.ret (.nx ρ') : Wp XE' Out)
    | none => .stuck).run _ E
  simp only [Wp.run_ret]
  have o : ownAt [SV.bx (b + 1 + 1 + 1 + 1), .fz (lv mA sA A), .fz (lv mB sB B), x3, .ow (hs.map qv), .fz (.int u), .fz (.int v), x7, .fz (.int d1), .fz (.int d2), .fz (.int p.1), .fz (.int p.2), .fz (.int q.1), .fz (.int q.2)] 4 = true := rfl
  have := hK ⟨d1, d2, p.1, q.1⟩ p.2 q.2 (.fz (.int d1)) (.fz (.int d2)) (.fz (.int p.1)) (.fz (.int p.2)) (.fz (.int q.1)) (.fz (.int q.2)) ⟨hd1', hd2', hq2.1, by have := hp2.1; have := oA.m8; show p.1 ≤ 8; omega⟩ hp2.2 hq2.2
  rw [List.map_append] at this
  rw [c_sSeq, c_sAppO, if_pos o]
  simp only [c_eTup, c_aCons, c_aNil, c_eVar', List.getElem?_cons_succ, List.getElem?_cons_zero, Wp.ret_bind, List.length_cons, List.length_nil, sl_le, Nat.reduceLeDiff, Nat.reduceAdd, if_true]
  rw [if_pos lz]
  exact this
theorem heard_run {mA sA mB sB b n : Nat} {A B : List (List Cell)} (oA : Ok mA sA A) (oB : Ok mB sB B) (hn : n ≤ 200) (hb : b < 10000000) {K : PV × List SV → Prop} {E : Ex × List SV → Prop}
    (hK : ∀ hs : List Ent, hs.length = n → (∀ e ∈ hs, eOk sA sB mB e) → K (hv hs, [.bx (b + 4 * n), .un, .un, .un])) : (m__law_heard [.bx b, .fz (lv mA sA A), .fz (lv mB sB B), .fz (.int n)]).run K E := by
  rw [heard_eq, fnV_eq rfl]
  have rg : iRange (.int (n : Int)) = some ((List.range n).map fun (k : Nat) => PV.int k) := iRange_len (sl_le (by omega))
  have lr : ((List.range n).map fun (k : Nat) => PV.int k).length = n := by rw [List.length_map, List.length_range]
  refine run_of ?_
  rw [run_map, c_sSeq]
  refine run_of ?_
  show ((sPar3L 4 5 6 _ _ _) [SV.bx b, .fz (lv mA sA A), .fz (lv mB sB B), .fz (.int n), .un, .un, .un, .un, .un, .un, .un, .un, .un, .un]).run _ _
  simp [sPar3L]
  refine run_of ?_
  simp only [rg, lift', Wp.ret_bind]
  refine for_inv (fun i ρ => ∃ (hs : List Ent) (u v : Nat) (a7 a8 a9 a10 a11 a12 a13 : SV), hs.length = i ∧ (∀ e ∈ hs, eOk sA sB mB e) ∧ u < A.length ∧ v < B.length ∧ ρ = [.bx (b + 4 * i), .fz (lv mA sA A), .fz (lv mB sB B), .fz (.int n), .ow (hs.map qv), .fz (.int u), .fz (.int v), a7, a8, a9, a10, a11, a12, a13]) _ 0 _
    ⟨[], 0, 0, .un, .un, .un, .un, .un, .un, .un, rfl, (fun _ z => nomatch z), by have := oA.n1; omega, by have := oB.n1; omega, rfl⟩ (fun i x hx ρ1 hj => ?_) fun ρ' hj => ?_
  · obtain ⟨hs, u, v, a7, a8, a9, a10, a11, a12, a13, hl, h2, hu, hv', e⟩ := hj
    obtain ⟨hi, rfl⟩ := range_at hx
    subst e
    refine ⟨[.bx (b + 4 * (0 + i)), .fz (lv mA sA A), .fz (lv mB sB B), .fz (.int n), .ow (hs.map qv), .fz (.int u), .fz (.int v), .fz (.int i), a8, a9, a10, a11, a12, a13], rfl, fun {K E} hK => ?_⟩
    refine h_step oA oB hu hv' (by omega) (by omega) _ _ _ _ _ _ _ _ fun e u' v' b8 b9 b10 b11 b12 b13 he hu' hv' => hK _ ⟨hs ++ [e], u', v', .fz (.int i), b8, b9, b10, b11, b12, b13, by simp; omega, (fun q hq => ?_), hu', hv', by rw [show b + 4 * (0 + i) + 4 = b + 4 * (0 + i + 1) by omega]⟩
    rcases List.mem_append.mp hq with z | z
    · exact h2 q z
    · rw [List.mem_singleton.mp z]; exact he
  · obtain ⟨hs, u, v, a7, a8, a9, a10, a11, a12, a13, hl, h2, hu, hv', e⟩ := hj
    rw [Nat.zero_add, lr] at hl e
    subst e
    have := hK hs hl h2
    simp [outs, SV.own]
    exact this
/-! ### one entry changed -/
theorem cutP_to {α : Type} (xs : List α) {k : Nat} (h : k ≤ xs.length) : cutP xs none (some (k : Int)) = xs.take k := by
  unfold cutP
  rw [HT.sIx_none, HT.sIx_nat, List.drop_zero, Nat.sub_zero, Nat.min_eq_left h]
theorem cutP_from {α : Type} (xs : List α) {k : Nat} (h : k ≤ xs.length) : cutP xs (some (k : Int)) none = xs.drop k := by
  unfold cutP
  rw [HT.sIx_none, HT.sIx_nat, Nat.min_eq_left h]
  exact List.take_of_length_le (by rw [List.length_drop]; omega)
theorem cutP_neg {α : Type} (xs : List α) (h : 1 ≤ xs.length) : cutP xs none (some (-1)) = xs.take (xs.length - 1) := by
  unfold cutP
  rw [HT.sIx_none, List.drop_zero, Nat.sub_zero]
  have : HT.sIx xs.length xs.length (some (-1)) = xs.length - 1 := by
    show (if (-1 : Int) < 0 then (-1 + (xs.length : Int)).toNat else min (-1 : Int).toNat xs.length) = _
    rw [if_pos (by decide)]
    omega
  rw [this]
def putE (e : Ent) (w z : Nat) : Ent := match w with
  | 0 => { e with a := z }
  | 1 => { e with b := z }
  | 2 => { e with x := z }
  | _ => { e with y := z }
def atE (e : Ent) (w : Nat) : Nat := match w with
  | 0 => e.a
  | 1 => e.b
  | 2 => e.x
  | _ => e.y
def atB (sA sB mA mB w : Nat) : Nat := match w with
  | 0 => sA
  | 1 => sB
  | 2 => mA
  | _ => mB
def enl (e : Ent) : List PV := [.int e.a, .int e.b, .int e.x, .int e.y]
theorem enl_ix (e : Ent) {w : Nat} (h : w < 4) : pIx (.lst none (enl e)) (.int w) = some (.int (atE e w)) := by
  rcases (show w = 0 ∨ w = 1 ∨ w = 2 ∨ w = 3 by omega) with rfl | rfl | rfl | rfl
  · exact atI_nat' (k := 0) rfl
  · exact atI_nat' (k := 1) rfl
  · exact atI_nat' (k := 2) rfl
  · exact atI_nat' (k := 3) rfl
theorem bnd_ix (sA sB mA mB : Nat) {w : Nat} (h : w < 4) : pIx (.lst none [.int sA, .int sB, .int mA, .int mB]) (.int w) = some (.int (atB sA sB mA mB w)) := by
  rcases (show w = 0 ∨ w = 1 ∨ w = 2 ∨ w = 3 by omega) with rfl | rfl | rfl | rfl
  · exact atI_nat' (k := 0) rfl
  · exact atI_nat' (k := 1) rfl
  · exact atI_nat' (k := 2) rfl
  · exact atI_nat' (k := 3) rfl
theorem enl_set (e : Ent) {w : Nat} (h : w < 4) (z : Nat) : (enl e).set w (.int z) = enl (putE e w z) := by
  rcases (show w = 0 ∨ w = 1 ∨ w = 2 ∨ w = 3 by omega) with rfl | rfl | rfl | rfl <;> rfl
theorem put_ok {sA sB mA mB : Nat} (hm : mA ≤ 8) {e : Ent} (he : eOk sA sB mB e) {w z : Nat} (hz : z < atB sA sB mA mB w) : eOk sA sB mB (putE e w z) := by
  obtain ⟨h1, h2, h3, h4⟩ := he
  rcases w with _ | _ | _ | w
  · exact ⟨hz, h2, h3, h4⟩
  · exact ⟨h1, hz, h3, h4⟩
  · exact ⟨h1, h2, h3, Nat.le_of_lt (Nat.lt_of_lt_of_le hz hm)⟩
  · exact ⟨h1, h2, hz, h4⟩
theorem sl_to {hs : List Ent} {k : Nat} (h : k ≤ hs.length) : pSl (hv hs) none (some (k : Int)) = some (hv (hs.take k)) := by
  show some (PV.lst none (cutP (hs.map qv) none (some (k : Int)))) = _
  rw [cutP_to _ (by rw [List.length_map]; omega), ← List.map_take]; rfl
theorem sl_from {hs : List Ent} {k : Nat} (h : k < hs.length) : pSl (hv hs) (some ((k : Int) + 1)) none = some (hv (hs.drop (k + 1))) := by
  show some (PV.lst none (cutP (hs.map qv) (some ((k : Int) + 1)) none)) = _
  have := cutP_from (hs.map qv) (k := k + 1) (by rw [List.length_map]; omega)
  rw [Int.natCast_add, Int.natCast_one] at this
  rw [this, ← List.map_drop]; rfl
theorem sl_neg {hs : List Ent} (h : 1 ≤ hs.length) : pSl (hv hs) none (some (-1)) = some (hv (hs.take (hs.length - 1))) := by
  show some (PV.lst none (cutP (hs.map qv) none (some (-1)))) = _
  rw [cutP_neg (hs.map qv) (by rw [List.length_map]; omega), List.length_map, ← List.map_take]; rfl
theorem hv_add (as bs : List Ent) (ha : as.length ≤ 1000) (hb : bs.length ≤ 1000) : pAdd (hv as) (hv bs) = some (hv (as ++ bs)) := by
  unfold hv
  have : (as.map qv).length + (bs.map qv).length ≤ sizeLine := by rw [List.length_map, List.length_map, sizeLine_eq]; omega
  simp only [pAdd]
  rw [if_pos this, List.map_append]
theorem bent_eq : m__law_bent = fnV 8 pin0 (sSeq (sPar 4 5 (eCallB mTake 0 (aCons (eOp1 pLen (eVar 3)) (aNil))) (eCallB mTake 0 (aCons (eC (.int 4)) (aNil)))) (sSeq (sParEL 6 7 (eLst (lDisp (aCons (eOp2 pIx (eVar 1) (eC (.int 1))) (aCons (eOp2 pIx (eVar 2) (eC (.int 1))) (aCons (eOp2 pIx (eVar 1) (eC (.int 0))) (aCons (eOp2 pIx (eVar 2) (eC (.int 0))) (aNil))))))) (lOp1 lList (eOp2 pIx (eVar 3) (eVar 4)))) (sSeq (sPutO 7 (eVar 5) (eOp2 pMod (eOp1 pInt (eOp2 pAdd (eOp2 pAdd (eIxO 7 (eVar 5)) (eC (.int 1))) (eCallB mTake 0 (aCons (eC (.int 7)) (aNil))))) (eOp2 pIx (eVar 6) (eVar 5)))) (sPub 7 (sRet (eOp2 pAdd (eOp2 pAdd (eSl pSl (eVar 3) (oNone) (oSome (eVar 4))) (eLst (lDisp (aCons (eOp1 pTuple (eVar 7)) (aNil))))) (eSl pSl (eVar 3) (oSome (eOp2 pAdd (eVar 4) (eC (.int 1)))) (oNone)))))))) := rfl
theorem bent_run {mA sA mB sB b : Nat} {A B : List (List Cell)} (oA : Ok mA sA A) (oB : Ok mB sB B) {hs : List Ent} (hl1 : 1 ≤ hs.length) (hl : hs.length ≤ 200) (he : ∀ e ∈ hs, eOk sA sB mB e) (hb : b < 10000000) {K : PV × List SV → Prop} {E : Ex × List SV → Prop}
    (hK : ∀ hs2 : List Ent, hs2.length ≤ 200 → (∀ e ∈ hs2, eOk sA sB mB e) → K (hv hs2, [.bx (b + 3), .un, .un, .un])) : (m__law_bent [.bx b, .fz (lv mA sA A), .fz (lv mB sB B), .fz (hv hs)]).run K E := by
  rw [bent_eq, fnV_eq rfl]
  refine run_of ?_
  rw [run_map, c_sSeq]
  refine run_of ?_
  show ((sPar 4 5 _ _) [SV.bx b, .fz (lv mA sA A), .fz (lv mB sB B), .fz (hv hs), .un, .un, .un, .un]).run _ _
  have l4 : pLen (hv hs) = some (.int hs.length) := by simp [hv, pLen]
  unfold sPar
  rw [take_val (ρ := [SV.bx b, .fz (lv mA sA A), .fz (lv mB sB B), .fz (hv hs), .un, .un, .un, .un]) (m := hs.length) (by simp [l4]) rfl (by omega) (by omega) (by omega)]
  simp only [all_bind, Wp.ret_bind, all_run, List.set_cons_zero]
  intro k hk
  obtain ⟨k, rfl⟩ := Int.eq_ofNat_of_zero_le hk.1
  have hk2 : k < hs.length := by omega
  rw [take_at (ρ := [SV.bx (b + 1), .fz (lv mA sA A), .fz (lv mB sB B), .fz (hv hs), .un, .un, .un, .un]) rfl (by omega) (by omega) (by omega)]
  simp only [all_bind, Wp.ret_bind, all_run, List.set_cons_zero]
  intro w hw
  obtain ⟨w, rfl⟩ := Int.eq_ofNat_of_zero_le hw.1
  have hw2 : w < 4 := by omega
  simp only [Wp.run_ret, List.set_cons_succ, List.set_cons_zero]
  have ix : pIx (hv hs) (.int k) = some (qv hs[k]) := atI_nat' (by rw [List.getElem?_map, List.getElem?_eq_getElem hk2]; rfl)
  have hek := he _ (List.getElem_mem hk2)
  generalize hs[k] = e at *
  have ll : lList (qv e) = some (enl e) := rfl
  have hp : (sParEL 6 7 (eLst (lDisp (aCons (eOp2 pIx (eVar 1) (eC (.int 1))) (aCons (eOp2 pIx (eVar 2) (eC (.int 1))) (aCons (eOp2 pIx (eVar 1) (eC (.int 0))) (aCons (eOp2 pIx (eVar 2) (eC (.int 0))) (aNil))))))) (lOp1 lList (eOp2 pIx (eVar 3) (eVar 4)))) [SV.bx (b + 1 + 1), .fz (lv mA sA A), .fz (lv mB sB B), .fz (hv hs), .fz (.int k), .fz (.int w), .un, .un] =
      .ret (.nx [SV.bx (b + 1 + 1), .fz (lv mA sA A), .fz (lv mB sB B), .fz (hv hs), .fz (.int k), .fz (.int w), .fz (.lst none [.int sA, .int sB, .int mA, .int mB]), .ow (enl e)]) := by
    simp [sParEL, ix, ll]
  rw [c_sSeq, hp]
  simp only [Wp.ret_bind]
  rw [c_sSeq]
  refine run_of ?_
  have o7 : ∀ (n : Nat) (xs : List PV), ownAt [SV.bx n, .fz (lv mA sA A), .fz (lv mB sB B), .fz (hv hs), .fz (.int k), .fz (.int w), .fz (.lst none [.int sA, .int sB, .int mA, .int mB]), .ow xs] 7 = true := fun _ _ => rfl
  have i7 := enl_ix e hw2
  have i6 := bnd_ix sA sB mA mB hw2
  rw [c_sPutO, c_eOp2, c_eOp1, c_eOp2, c_eOp2, c_eIxO, if_pos (o7 _ _)]
  simp only [c_eVar', c_eC, List.getElem?_cons_succ, List.getElem?_cons_zero, Wp.ret_bind, i7, lift, pAdd]
  rw [take_at (ρ := [SV.bx (b + 1 + 1), .fz (lv mA sA A), .fz (lv mB sB B), .fz (hv hs), .fz (.int k), .fz (.int w), .fz (.lst none [.int sA, .int sB, .int mA, .int mB]), .ow (enl e)]) rfl (by omega) (by omega) (by omega)]
  simp only [all_bind, Wp.ret_bind, all_run, List.set_cons_zero]
  intro d hd
  obtain ⟨d, rfl⟩ := Int.eq_ofNat_of_zero_le hd.1
  have hbd : 0 < atB sA sB mA mB w := by
    have h1 := oA.s1; have h2 := oB.s1; have h3 := oA.m1; have h4 := oB.m1
    rcases (show w = 0 ∨ w = 1 ∨ w = 2 ∨ w = 3 by omega) with rfl | rfl | rfl | rfl <;> assumption
  have hz := Nat.mod_lt (atE e w + 1 + d) hbd
  have pm : pMod (.int ((atE e w : Int) + 1 + d)) (.int (atB sA sB mA mB w)) = some (.int (((atE e w + 1 + d) % atB sA sB mA mB w : Nat) : Int)) := by rw [mod_ok (by omega)]; congr 2
  generalize (atE e w + 1 + d) % atB sA sB mA mB w = z at *
  have nj : ixN 4 (w : Int) = some w := by unfold ixN; simp; omega
  have el : (enl e).length = 4 := rfl
  have es := enl_set e hw2 z
  simp only [pInt, lift, pAdd, c_eOp2 (f2 := pIx), c_eVar', List.getElem?_cons_succ, List.getElem?_cons_zero, Wp.ret_bind, i6, pm, o7, if_true, el, nj, Wp.run_ret, List.set_cons_succ, List.set_cons_zero, es]
  have po := put_ok oA.m8 hek hz
  generalize putE e w z = e2 at *
  have t2 : pTuple (.lst none (enl e2)) = some (qv e2) := rfl
  have a1 := sl_to (hs := hs) (k := k) (by omega)
  have a2 := sl_from (hs := hs) hk2
  have a3 := hv_add (hs.take k) [e2] (by rw [List.length_take]; omega) (by simp)
  have a4 := hv_add (hs.take k ++ [e2]) (hs.drop (k + 1)) (by rw [List.length_append, List.length_take]; simp; omega) (by rw [List.length_drop]; omega)
  have a5 : PV.lst none [qv e2] = hv [e2] := rfl
  have a6 : pAdd (.int (k : Int)) (.int 1) = some (.int ((k : Int) + 1)) := rfl
  have := hK (hs.take k ++ [e2] ++ hs.drop (k + 1)) (by rw [List.length_append, List.length_append, List.length_take, List.length_drop]; simp; omega) (fun x hx => by
    rcases List.mem_append.mp hx with y | y
    · rcases List.mem_append.mp y with y | y
      · exact he x (List.mem_of_mem_take y)
      · rw [List.mem_singleton.mp y]; exact po
    · exact he x (List.mem_of_mem_drop y))
  generalize hs.take k ++ [e2] ++ hs.drop (k + 1) = hs2 at *
  generalize hs.take k ++ [e2] = hs3 at *
  simp [t2, a1, a2, a3, a4, a5, a6, outs, SV.own]
  exact this
end k05

set_option Elab.async false
set_option linter.all false
set_option maxRecDepth 100000
set_option maxHeartbeats 1000000
namespace k05
open PySem PySem.Spec PyProof.Rows L2 VL
def lP : GL := lLc [10, 11, 12, 13] (iSeq (eVar 6)) (gT [10, 11, 12, 13]) (gYes) (eTup (aCons (eOp2 pAdd (eOp2 pMul (eVar 10) (eOp2 pIx (eVar 3) (eC (.int 1)))) (eVar 11)) (aCons (eOp2 pAdd (eOp2 pMul (eVar 12) (eOp2 pIx (eVar 3) (eC (.int 0)))) (eVar 13)) (aNil))))
def big : Nat := 1000
theorem lP_ok {mB sB : Nat} {B : List (List Cell)} (hm : mB ≤ 8) (hs : sB ≤ 8) (es : List Ent) (hl : es.length ≤ 200) (x0 x1 x2 x4 x5 x7 x8 x9 : SV) (hx : ∀ e ∈ es, e.a ≤ 8 ∧ e.x ≤ 8) :
    lP [x0, x1, x2, .fz (lv mB sB B), x4, x5, .fz (hv es), x7, x8, x9, .un, .un, .un, .un] = .ret ((es.map (encE sB mB)).map pr, [x0, x1, x2, .fz (lv mB sB B), x4, x5, .fz (hv es), x7, x8, x9, .un, .un, .un, .un]) := by
  have q : lP [x0, x1, x2, .fz (lv mB sB B), x4, x5, .fz (hv es), x7, x8, x9, .un, .un, .un, .un] = .ret (((es.map qv).filter fun _ => true).map fun z => (match z with | .tup [.int a, .int b, .int x, .int y] => PV.tup [.int (a * sB + b), .int (x * mB + y)] | _ => .non), [x0, x1, x2, .fz (lv mB sB B), x4, x5, .fz (hv es), x7, x8, x9, .un, .un, .un, .un]) := by
    refine lLc_gen (fun ρ => ∃ a b c d, ρ = [x0, x1, x2, .fz (lv mB sB B), x4, x5, .fz (hv es), x7, x8, x9, a, b, c, d]) _ _ (by simp [hv, items]) (by rw [List.length_map]; exact sl_le (by omega)) rfl ⟨_, _, _, _, rfl⟩ (fun x hxm ρ1 ⟨a, b, c, d, e⟩ => ?_) fun ρ1 ⟨a, b, c, d, e⟩ => by rw [e]; rfl
    obtain ⟨e', he, rfl⟩ := List.mem_map.mp hxm
    subst e
    obtain ⟨h1, h2⟩ := hx e' he
    refine ⟨[x0, x1, x2, .fz (lv mB sB B), x4, x5, .fz (hv es), x7, x8, x9, .fz (.int e'.a), .fz (.int e'.b), .fz (.int e'.x), .fz (.int e'.y)], rfl, ⟨_, _, _, _, rfl⟩, rfl, fun _ => ?_⟩
    have m1 : pMul (.int (e'.a : Int)) (.int sB) = some (.int (e'.a * sB)) := by rw [mul_small (by omega) (by omega), Int.natCast_mul]
    have m2 : pMul (.int (e'.x : Int)) (.int mB) = some (.int (e'.x * mB)) := by rw [mul_small (by omega) (by omega), Int.natCast_mul]
    simp [m1, m2, pAdd, qv]
  rw [q, filter_all fun _ _ => rfl, List.map_map, List.map_map]
  congr 2
def hp (es : List (Nat × Nat)) : PV := .lst none (es.map pr)
def bR : GS := sSeq (sSet 7 (eCall m__law_walked (aCons (eVar 2) (aCons (eVar 3) (aCons (eVar 6) (aNil)))))) (sSeq (sSet 8 (eLst lP)) (sSeq (sIf (gNot (gVal (eCall r__law_same (aCons (eCall m_is_heard (aCons (eVar 1) (aCons (eLst (lOp1 lList (eVar 8))) (aNil)))) (aCons (eOp2 pIsNot (eVar 7) (eC .non)) (aNil)))))) (sRet (eC (.bl false))) (sNil)) (sSeq (sSet 9 (eIf (gBl (eOp2 pIs (eVar 7) (eC .non))) (eLst (lDisp (aCons (eC (.str "heard")) (aCons (eVar 8) (aNil))))) (eLst (lDisp (aCons (eC (.str "told")) (aCons (eOp2 pAdd (eOp2 pMul (eOp2 pIx (eVar 7) (eC (.int 0))) (eOp1 pLen (eOp2 pIx (eVar 3) (eC (.int 2))))) (eOp2 pIx (eVar 7) (eC (.int 1)))) (aNil))))))) (sIf (gNot (gVal (eCall r__law_same (aCons (eCall m__law_behind (aCons (eVar 1) (aCons (eLst (lOp1 lList (eVar 8))) (aNil)))) (aCons (eVar 9) (aNil)))))) (sRet (eC (.bl false))) (sNil)))))
theorem list_hp (hs : List (Nat × Nat)) : lList (hp hs) = some (hs.map pr) := rfl
theorem row_ok {mA sA mB sB : Nat} {A B : List (List Cell)} (oA : Ok mA sA A) (oB : Ok mB sB B) (h6 : sA * sB ≤ 6) (h8 : mA * mB ≤ 8) (hn : A.length * B.length ≤ 8) (es : List Ent) (hl : es.length ≤ 200) (he : ∀ e ∈ es, eOk sA sB mB e) (x0 x4 x5 x7 x8 x9 : SV) :
    ∃ y7 y8 y9, bR [x0, .fz (ov (mA * mB) (sA * sB) (besW mB A B)), .fz (lv mA sA A), .fz (lv mB sB B), x4, x5, .fz (hv es), x7, x8, x9, .un, .un, .un, .un] = .ret (.nx [x0, .fz (ov (mA * mB) (sA * sB) (besW mB A B)), .fz (lv mA sA A), .fz (lv mB sB B), x4, x5, .fz (hv es), y7, y8, y9, .un, .un, .un, .un]) := by
  have oW := besW_ok oA oB h6 h8 hn
  have w := walked_ok oA oB es he
  have sA6 := oA.s6
  have mB8 := oB.m8
  have sB6 := oB.s6
  have lp := lP_ok (sB := sB) (B := B) mB8 (by omega) es hl x0 (.fz (ov (mA * mB) (sA * sB) (besW mB A B))) (.fz (lv mA sA A)) x4 x5
  have hle : ∀ e ∈ es, e.a ≤ 8 ∧ e.x ≤ 8 := fun e h => ⟨by have := (he e h).1; omega, (he e h).2.2.2⟩
  have hl2 : (es.map (encE sB mB)).length ≤ 200 := by rw [List.length_map]; exact hl
  have hs2 : ∀ p ∈ es.map (encE sB mB), p.1 < sA * sB := fun p hp => by
    obtain ⟨e, h, rfl⟩ := List.mem_map.mp hp
    exact enc_lt (he e h).1 (he e h).2.1
  have h := heard_ok oW _ hl2 hs2
  have bh := law_behind_ok oW _ hl2 hs2
  have g := go_bes oA oB es 0 0 he (by have := oA.n1; omega) (by have := oB.n1; omega)
  rw [Nat.zero_mul, Nat.zero_add] at g
  have lB := len_wv B
  generalize besW mB A B = W at *
  generalize es.map (encE sB mB) = ps at *
  generalize sA * sB = ss at *
  generalize mA * mB = mm at *
  have lw : PV.lst none (ps.map pr) = hp ps := rfl
  rw [lw] at h bh
  cases hw : walk A B 0 0 es with
  | none =>
    rw [hw] at w g
    rw [Option.map_none] at g
    rw [g] at h bh
    simp only [Option.isSome_none, walkV] at h bh w
    refine ⟨.fz .non, .fz (hp ps), .fz (.lst none [.str "heard", hp ps]), ?_⟩
    have sm1 := same_run (sm_refl 12 (.bl false) rfl)
    have sm2 := same_run (sm_refl 12 (.lst none [.str "heard", hp ps]) (by
      have e1 : smz 11 (.str "heard") = true := by decide +kernel
      have e2 : smz 11 (hp ps) = true := by
        unfold hp smz
        rw [Bool.and_eq_true]
        refine ⟨decide_eq_true (by rw [List.length_map]; omega), smzs_all fun x hx => ?_⟩
        obtain ⟨p, _, rfl⟩ := List.mem_map.mp hx
        simp [pr, smz, smzs]
      simp [smz, smzs] at e1 e2 ⊢
      exact ⟨e1, e2⟩))
    have lp := lp (.fz .non) x8 x9 hle
    simp [bR, fzs, w, lp, pIs, pIsNot, list_hp, lw, h, bh, sm1, sm2, truth]
  | some uv =>
    obtain ⟨u, v⟩ := uv
    rw [hw] at w g
    rw [Option.map_some] at g
    rw [g] at h bh
    simp only [Option.isSome_some, walkV] at h bh w
    obtain ⟨hu, hv'⟩ := walk_lt oA oB es 0 0 u v he (by have := oA.n1; omega) (by have := oB.n1; omega) hw
    have nA := oA.n8
    have nB := oB.n8
    have q3 : pMul (.int (u : Int)) (.int B.length) = some (.int ((u * B.length : Nat) : Int)) := mul_small (by omega) (by omega)
    generalize u * B.length = x3 at *
    refine ⟨.fz (.tup [.int u, .int v]), .fz (hp ps), .fz (.lst none [.str "told", .int ((x3 + v : Nat) : Int)]), ?_⟩
    have sm1 := same_run (sm_refl 12 (.bl true) rfl)
    have sm2 := same_run (sm_refl 12 (.lst none [.str "told", .int ((x3 + v : Nat) : Int)]) (by
      have e1 : smz 11 (.str "told") = true := by decide +kernel
      simp [smz, smzs] at e1 ⊢
      exact e1))
    have i0 : ∀ a b : PV, pIx (.tup [a, b]) (.int 0) = some a := fun a b => atI_nat' (k := 0) rfl
    have i1 : ∀ a b : PV, pIx (.tup [a, b]) (.int 1) = some b := fun a b => atI_nat' (k := 1) rfl
    have q5 : pAdd (.int (x3 : Int)) (.int (v : Int)) = some (.int ((x3 + v : Nat) : Int)) := by simp [pAdd]
    generalize x3 + v = en at *
    have lp := lp (.fz (.tup [.int u, .int v])) x8 x9 hle
    simp [bR, fzs, w, lp, pIs, pIsNot, list_hp, lw, h, bh, sm1, sm2, truth, i0, i1, lB, q3, q5]
theorem ticks_run {b : Nat} (hb : b < 1000000000) {x1 x2 x3 : SV} {rest : List SV} {K : PV × Env' → Prop} {E : XE' → Prop} (hK : ∀ n b' : Nat, 1 ≤ n → n ≤ 200 → b' ≤ b + 2 → K (.int n, .bx b' :: x1 :: x2 :: x3 :: rest)) :
    (eIf (gBl (eOp2 pEq (eCallB mTake 0 (aCons (eC (.int 8)) (aNil))) (eC (.int 0)))) (eC (.int 200)) (eOp2 pAdd (eC (.int 1)) (eCallB mTake 0 (aCons (eC (.int 12)) (aNil)))) (.bx b :: x1 :: x2 :: x3 :: rest)).run K E := by
  have t1 : eCallB mTake 0 (aCons (eC (.int 8)) aNil) (.bx b :: x1 :: x2 :: x3 :: rest) = _ := take_at rfl (by omega) (by omega) (by omega)
  have t2 : eCallB mTake 0 (aCons (eC (.int 12)) aNil) (.bx (b + 1) :: x1 :: x2 :: x3 :: rest) = _ := take_at rfl (by omega) (by omega) (by omega)
  rw [c_eIf, c_gBl, c_eOp2, t1]
  simp only [all_bind, Wp.ret_bind, all_run, List.set_cons_zero, c_eC, pEq_int, lift]
  intro d hd
  split
  · exact hK 200 _ (by omega) (by omega) (by omega)
  · rw [c_eOp2, c_eC, Wp.ret_bind, t2]
    simp only [all_bind, Wp.ret_bind, all_run, List.set_cons_zero]
    intro d hd
    obtain ⟨d, rfl⟩ := Int.eq_ofNat_of_zero_le hd.1
    have := hK (1 + d) (b + 1 + 1) (by omega) (by omega) (by omega)
    rw [Int.natCast_add] at this
    exact this
theorem hr_eq : m__law_heard_right = fnV 14 pin0 (sSeq (sSet 4 (eIf (gBl (eOp2 pEq (eCallB mTake 0 (aCons (eC (.int 8)) (aNil))) (eC (.int 0)))) (eC (.int 200)) (eOp2 pAdd (eC (.int 1)) (eCallB mTake 0 (aCons (eC (.int 12)) (aNil)))))) (sSeq (sSet 5 (eCallB m__law_heard 0 (aCons (eVar 2) (aCons (eVar 3) (aCons (eVar 4) (aNil)))))) (sSeq (sFor (gN 6) (iSeq (eLst (lDisp (aCons (eVar 5) (aCons (eCallB m__law_bent 0 (aCons (eVar 2) (aCons (eVar 3) (aCons (eVar 5) (aNil))))) (aCons (eSl pSl (eVar 5) (oNone) (oSome (eOp1 pNeg (eC (.int 1))))) (aNil))))))) bR) (sRet (eC (.bl true)))))) := rfl
theorem hr_run {mA sA mB sB b : Nat} {A B : List (List Cell)} (oA : Ok mA sA A) (oB : Ok mB sB B) (h6 : sA * sB ≤ 6) (h8 : mA * mB ≤ 8) (hn : A.length * B.length ≤ 8) (hb : b < 1000000) {K : PV × List SV → Prop} {E : Ex × List SV → Prop}
    (hK : ∀ b', b' ≤ b + 1000 → K (.bl true, [.bx b', .un, .un, .un])) : (m__law_heard_right [.bx b, .fz (ov (mA * mB) (sA * sB) (besW mB A B)), .fz (lv mA sA A), .fz (lv mB sB B)]).run K E := by
  rw [hr_eq, fnV_eq rfl]
  refine run_of ?_
  rw [run_map, c_sSeq]
  refine run_of ?_
  show ((sSet 4 _) [SV.bx b, .fz (ov (mA * mB) (sA * sB) (besW mB A B)), .fz (lv mA sA A), .fz (lv mB sB B), .un, .un, .un, .un, .un, .un, .un, .un, .un, .un]).run _ _
  rw [c_sSet]
  refine run_of (ticks_run (by omega) fun n b1 hn1 hn2 hb1 => ?_)
  simp only [Wp.run_ret, List.set_cons_succ, List.set_cons_zero]
  rw [c_sSeq, c_sSet]
  refine run_of (run_of (boxed_run (n := b1) rfl (v := [lv mA sA A, lv mB sB B, .int n]) (by simp) (heard_run oA oB hn2 (by omega) fun hs hl he => ?_)))
  simp only [Wp.run_ret, List.set_cons_succ, List.set_cons_zero, List.headD_cons]
  rw [c_sSeq]
  refine run_of ?_
  rw [c_sFor, c_iSeq, c_eLst, c_lDisp, c_aCons]
  simp only [c_eVar', List.getElem?_cons_succ, List.getElem?_cons_zero, Wp.ret_bind]
  rw [c_aCons]
  refine run_of (run_of (run_of (run_of (run_of (run_of (boxed_run (n := b1 + 4 * n) rfl (v := [lv mA sA A, lv mB sB B, hv hs]) (by simp) (bent_run oA oB (by omega) (by omega) he (by omega) fun hs2 hl2 he2 => ?_)))))))
  have s3 := sl_neg (hs := hs) (by omega)
  have he3 : ∀ e ∈ hs.take (hs.length - 1), eOk sA sB mB e := fun e h => he e (List.mem_of_mem_take h)
  have hl3 : (hs.take (hs.length - 1)).length ≤ 200 := by rw [List.length_take]; omega
  generalize hs.take (hs.length - 1) = hs3 at *
  simp [s3, pNeg, items]
  obtain ⟨ρ', ⟨y6, y7, y8, y9, e⟩, hf⟩ := for_det (f := gN 6) (g := bR) (fun j ρ => ∃ y6 y7 y8 y9, ρ = [.bx (b1 + 4 * n + 3), .fz (ov (mA * mB) (sA * sB) (besW mB A B)), .fz (lv mA sA A), .fz (lv mB sB B), .fz (.int n), .fz (hv hs), y6, y7, y8, y9, .un, .un, .un, .un]) ([hs, hs2, hs3].map hv) 0 _ ⟨.un, .un, .un, .un, rfl⟩ fun j x hx ρ1 ⟨y6, y7, y8, y9, e⟩ => by
    obtain ⟨r, hm, _, rfl⟩ := map_at hx
    have hrp : r.length ≤ 200 ∧ ∀ e ∈ r, eOk sA sB mB e := by
      simp only [List.mem_cons, List.not_mem_nil, or_false] at hm
      rcases hm with rfl | rfl | rfl
      · exact ⟨by omega, he⟩
      · exact ⟨hl2, he2⟩
      · exact ⟨hl3, he3⟩
    subst e
    obtain ⟨z7, z8, z9, er⟩ := row_ok oA oB h6 h8 hn r hrp.1 hrp.2 (.bx (b1 + 4 * n + 3)) (.fz (.int n)) (.fz (hv hs)) y7 y8 y9
    exact ⟨_, _, rfl, er, _, _, _, _, rfl⟩
  subst e
  rw [show [hv hs, hv hs2, hv hs3] = [hs, hs2, hs3].map hv from rfl, hf]
  have := hK (b1 + 4 * n + 3) (by omega)
  simp [outs, SV.own]
  exact this
end k05

set_option Elab.async false
set_option linter.all false
set_option maxRecDepth 100000
set_option maxHeartbeats 1000000
namespace k05
open PySem PySem.Spec PyProof.Rows L2 VL
theorem seq_ne {x y : PySem.Str} (h : x ≠ y) : pEq (.str x) (.str y) = some (.bl false) := by simp [pEq, eqB, h]
def t1 : GS := sIf (gAnd (gBl (eOp2 pEq (eOp2 pIx (eVar 7) (eC (.int 0))) (eC (.str "many")))) (gNot (gVal (eCall r__law_same (aCons (eVar 8) (aCons (eVar 7) (aNil))))))) (sRet (eC (.bl false))) (sNil)
def t2 : GS := sIf (gAnd (gBl (eOp2 pEq (eOp2 pIx (eVar 7) (eC (.int 0))) (eC (.str "told")))) (gOr (gBl (eOp2 pNe (eOp2 pIx (eVar 8) (eC (.int 0))) (eC (.str "told")))) (gNot (gVal (eCall m__law_is_line (aCons (eOp2 pIx (eVar 8) (eC (.int 1))) (aCons (eOp2 pIx (eVar 7) (eC (.int 1))) (aNil)))))))) (sRet (eC (.bl false))) (sNil)
def t3 : GS := sIf (gAnd (gBl (eOp2 pEq (eOp2 pIx (eVar 7) (eC (.int 0))) (eC (.str "told")))) (gAnd (gBl (eOp2 pLtT (eVar 6) (eC (.int 2)))) (gNot (gVal (eCallB m__law_heard_right 0 (aCons (eOp2 pIx (eVar 8) (eC (.int 1))) (aCons (eOp2 pIx (eLst (lDisp (aCons (eVar 2) (aCons (eVar 3) (aNil))))) (eVar 6)) (aCons (eOp2 pIx (eLst (lDisp (aCons (eVar 3) (aCons (eVar 2) (aNil))))) (eVar 6)) (aNil))))))))) (sRet (eC (.bl false))) (sNil)
def t4 : GS := sSet 1 (eNot (eVar 1))
def bTail : GS := sSeq t1 (sSeq t2 (sSeq t3 t4))
theorem due_line {mA sA mB sB m s : Nat} {A B ws : List (List Cell)} (hd : due mA sA A mB sB B = .line m s ws) : sA * sB ≤ 6 ∧ mA * mB ≤ 8 ∧ A.length * B.length ≤ 8 ∧ m = mA * mB ∧ s = sA * sB ∧ ws = besW mB A B := by
  unfold due at hd
  by_cases c1 : sA * sB ≤ 6
  · rw [if_neg (not_not_intro c1)] at hd
    by_cases c2 : mA * mB ≤ 8
    · rw [if_neg (not_not_intro c2)] at hd
      by_cases c3 : A.length * B.length ≤ 8
      · rw [if_neg (not_not_intro c3)] at hd
        injection hd with e1 e2 e3
        exact ⟨c1, c2, c3, e1.symm, e2.symm, e3.symm⟩
      · rw [if_pos c3] at hd; exact Due.noConfusion hd
    · rw [if_pos c2] at hd; exact Due.noConfusion hd
  · rw [if_pos c1] at hd; exact Due.noConfusion hd
theorem tail_run {mA sA mB sB b w : Nat} {A B : List (List Cell)} {F S : PV} {nm : Bool} (oA : Ok mA sA A) (oB : Ok mB sB B) (h1 : w < 2 → pIx (.lst none [F, S]) (.int w) = some (lv mA sA A)) (h2 : w < 2 → pIx (.lst none [S, F]) (.int w) = some (lv mB sB B)) (hb : b < 100000) (x4 x5 : SV) {K : Out → Prop} {E : XE' → Prop}
    (hK : ∀ b', b' ≤ b + 1000 → K (.nx [.bx b', .fz (.bl !nm), .fz F, .fz S, x4, x5, .fz (.int w), .fz (dueV (due mA sA A mB sB B)), .fz (toldV (due mA sA A mB sB B))])) :
    (bTail [.bx b, .fz (.bl nm), .fz F, .fz S, x4, x5, .fz (.int w), .fz (dueV (due mA sA A mB sB B)), .fz (toldV (due mA sA A mB sB B))]).run K E := by
  have j0 : ∀ a b : PV, pIx (.lst none [a, b]) (.int 0) = some a := fun a b => atI_nat' (k := 0) rfl
  have j1 : ∀ a b : PV, pIx (.lst none [a, b]) (.int 1) = some b := fun a b => atI_nat' (k := 1) rfl
  have q0 : pEq (.str "told") (.str "told") = some (.bl true) := seq_same _
  have q1 : pEq (.str "many") (.str "many") = some (.bl true) := seq_same _
  have q2 : pEq (.str "many") (.str "told") = some (.bl false) := seq_ne (by decide +kernel)
  have q3 : pEq (.str "told") (.str "many") = some (.bl false) := seq_ne (by decide +kernel)
  have n0 : pNe (.str "told") (.str "told") = some (.bl false) := sne_same _
  unfold bTail
  cases hd : due mA sA A mB sB B with
  | many c =>
    have sm := same_run (sm_refl 12 (dueV (.many c)) (by
      have e1 : smz 11 (.str "many") = true := by decide +kernel
      simp [dueV, smz, smzs] at e1 ⊢
      exact e1))
    have := hK b (by omega)
    rw [hd] at this
    simp [t1, t2, t3, t4, dueV, toldV, j0, q1, q2, fzs, truth] at sm this ⊢
    simp [sm, j0, q2]
    exact this
  | line m s ws =>
    have hh := due_line hd
    have h6 := hh.1
    have h8 := hh.2.1
    have hn := hh.2.2.1
    have em := hh.2.2.2.1
    have es := hh.2.2.2.2.1
    have ew := hh.2.2.2.2.2
    clear hh
    subst em
    subst es
    subst ew
    have oW := besW_ok oA oB h6 h8 hn
    have il := is_line_ok oW
    have hb2 : b < 1000000 := by omega
    have hrr : ∀ {K : PV × List SV → Prop} {E : Ex × List SV → Prop}, (∀ b', b' ≤ b + 1000 → K (.bl true, [.bx b', .un, .un, .un])) → (m__law_heard_right [.bx b, .fz (ov (mA * mB) (sA * sB) (besW mB A B)), .fz (lv mA sA A), .fz (lv mB sB B)]).run K E := fun h => hr_run oA oB h6 h8 hn hb2 h
    rw [hd] at hK
    generalize besW mB A B = W at *
    generalize mA * mB = mm at *
    generalize sA * sB = ss at *
    have e1 : t1 [.bx b, .fz (.bl nm), .fz F, .fz S, x4, x5, .fz (.int w), .fz (dueV (.line mm ss W)), .fz (toldV (.line mm ss W))] = .ret (.nx [.bx b, .fz (.bl nm), .fz F, .fz S, x4, x5, .fz (.int w), .fz (dueV (.line mm ss W)), .fz (toldV (.line mm ss W))]) := by
      simp [t1, dueV, j0, q3]
    have e2 : t2 [.bx b, .fz (.bl nm), .fz F, .fz S, x4, x5, .fz (.int w), .fz (dueV (.line mm ss W)), .fz (toldV (.line mm ss W))] = .ret (.nx [.bx b, .fz (.bl nm), .fz F, .fz S, x4, x5, .fz (.int w), .fz (dueV (.line mm ss W)), .fz (toldV (.line mm ss W))]) := by
      simp [t2, dueV, toldV, j0, j1, q0, n0, fzs, il, truth]
    rw [c_sSeq, e1]
    simp only [Wp.ret_bind]
    rw [c_sSeq, e2]
    simp only [Wp.ret_bind]
    rw [c_sSeq]
    refine run_of ?_
    unfold t3
    rw [c_sIf, c_gAnd]
    have c1 : (gBl (eOp2 pEq (eOp2 pIx (eVar 7) (eC (.int 0))) (eC (.str "told")))) [.bx b, .fz (.bl nm), .fz F, .fz S, x4, x5, .fz (.int w), .fz (dueV (.line mm ss W)), .fz (toldV (.line mm ss W))] = .ret (true, [.bx b, .fz (.bl nm), .fz F, .fz S, x4, x5, .fz (.int w), .fz (dueV (.line mm ss W)), .fz (toldV (.line mm ss W))]) := by
      simp [dueV, j0, q0]
    rw [c1]
    simp only [Wp.ret_bind, if_true]
    rw [c_gAnd]
    have pl : pLtT (.int (w : Int)) (.int 2) = some (.bl (decide (w < 2))) := by
      unfold pLtT
      dsimp only
      congr 2
      by_cases h : w < 2
      · rw [decide_eq_true h]; exact decide_eq_true (by omega)
      · rw [decide_eq_false h]; exact decide_eq_false (by omega)
    have c2 : (gBl (eOp2 pLtT (eVar 6) (eC (.int 2)))) [.bx b, .fz (.bl nm), .fz F, .fz S, x4, x5, .fz (.int w), .fz (dueV (.line mm ss W)), .fz (toldV (.line mm ss W))] = .ret (decide (w < 2), [.bx b, .fz (.bl nm), .fz F, .fz S, x4, x5, .fz (.int w), .fz (dueV (.line mm ss W)), .fz (toldV (.line mm ss W))]) := by
      simp [pl]
    rw [c2]
    simp only [Wp.ret_bind]
    by_cases hw : w < 2
    · rw [if_pos (decide_eq_true hw), c_gNot, c_gVal]
      refine run_of (run_of (run_of (boxed_run (n := b) rfl (v := [ov mm ss W, lv mA sA A, lv mB sB B]) ?_ (hrr fun b' hb' => ?_))))
      · simp [toldV, j1, h1 hw, h2 hw]
      · have := hK b' hb'
        simp [truth, t4]
        exact this
    · rw [if_neg (by simp [hw])]
      have := hK b (by omega)
      simp [t4]
      exact this
def bWay : GS := sSeq (sSet 7 (eIf (gBl (eOp2 pEq (eVar 6) (eC (.int 1)))) (eCall m__law_due (aCons (eVar 3) (aCons (eVar 2) (aNil)))) (eCall m__law_due (aCons (eVar 2) (aCons (eVar 3) (aNil)))))) (sSeq (sSet 8 (eIf (gBl (eOp2 pEq (eVar 6) (eC (.int 1)))) (eCall m__law_asked (aCons (eVar 5) (aCons (eVar 4) (aCons (eVar 1) (aNil))))) (eCall m__law_asked (aCons (eVar 4) (aCons (eVar 5) (aCons (eVar 1) (aNil))))))) bTail)
theorem way_run {mA sA mB sB b w : Nat} {A B : List (List Cell)} {nm : Bool} (oA : Ok mA sA A) (oB : Ok mB sB B) (hw : w < 3) (hb : b < 100000) (x7 x8 : SV) {K : Out → Prop} {E : XE' → Prop}
    (hK : ∀ b' y7 y8, b' ≤ b + 1000 → K (.nx [.bx b', .fz (.bl !nm), .fz (lv mA sA A), .fz (lv mB sB B), .fz (ov mA sA A), .fz (ov mB sB B), .fz (.int w), y7, y8])) :
    (bWay [.bx b, .fz (.bl nm), .fz (lv mA sA A), .fz (lv mB sB B), .fz (ov mA sA A), .fz (ov mB sB B), .fz (.int w), x7, x8]).run K E := by
  have j0 : ∀ a b : PV, pIx (.lst none [a, b]) (.int 0) = some a := fun a b => atI_nat' (k := 0) rfl
  have j1 : ∀ a b : PV, pIx (.lst none [a, b]) (.int 1) = some b := fun a b => atI_nat' (k := 1) rfl
  by_cases h : w = 1
  · subst h
    have d := ldue_ok oB oA
    have a := asked_ok oB oA nm
    have t := tail_run (S := lv mB sB B) (F := lv mA sA A) (w := 1) (nm := nm) oB oA (fun _ => j1 _ _) (fun _ => j1 _ _) hb (.fz (ov mA sA A)) (.fz (ov mB sB B)) (K := K) (E := E) fun b' hb' => hK b' _ _ hb'
    generalize due mB sB B mA sA A = D at *
    have s7 : (sSet 7 (eIf (gBl (eOp2 pEq (eVar 6) (eC (.int 1)))) (eCall m__law_due (aCons (eVar 3) (aCons (eVar 2) (aNil)))) (eCall m__law_due (aCons (eVar 2) (aCons (eVar 3) (aNil)))))) [.bx b, .fz (.bl nm), .fz (lv mA sA A), .fz (lv mB sB B), .fz (ov mA sA A), .fz (ov mB sB B), .fz (.int ((1 : Nat) : Int)), x7, x8] = .ret (.nx [.bx b, .fz (.bl nm), .fz (lv mA sA A), .fz (lv mB sB B), .fz (ov mA sA A), .fz (ov mB sB B), .fz (.int ((1 : Nat) : Int)), .fz (dueV D), x8]) := by
      simp [pEq_int, fzs, d]
    have s8 : (sSet 8 (eIf (gBl (eOp2 pEq (eVar 6) (eC (.int 1)))) (eCall m__law_asked (aCons (eVar 5) (aCons (eVar 4) (aCons (eVar 1) (aNil))))) (eCall m__law_asked (aCons (eVar 4) (aCons (eVar 5) (aCons (eVar 1) (aNil))))))) [.bx b, .fz (.bl nm), .fz (lv mA sA A), .fz (lv mB sB B), .fz (ov mA sA A), .fz (ov mB sB B), .fz (.int ((1 : Nat) : Int)), .fz (dueV D), x8] = .ret (.nx [.bx b, .fz (.bl nm), .fz (lv mA sA A), .fz (lv mB sB B), .fz (ov mA sA A), .fz (ov mB sB B), .fz (.int ((1 : Nat) : Int)), .fz (dueV D), .fz (toldV D)]) := by
      simp [pEq_int, fzs, a]
    unfold bWay
    rw [c_sSeq, s7]
    simp only [Wp.ret_bind]
    rw [c_sSeq, s8]
    simp only [Wp.ret_bind]
    exact t
  · have h' : ¬ (w : Int) = 1 := by omega
    have d := ldue_ok oA oB
    have a := asked_ok oA oB nm
    have t := tail_run (S := lv mB sB B) (F := lv mA sA A) (w := w) (nm := nm) oA oB (fun z => by rw [show w = 0 by omega]; exact j0 _ _) (fun z => by rw [show w = 0 by omega]; exact j0 _ _) hb (.fz (ov mA sA A)) (.fz (ov mB sB B)) (K := K) (E := E) fun b' hb' => hK b' _ _ hb'
    generalize due mA sA A mB sB B = D at *
    have s7 : (sSet 7 (eIf (gBl (eOp2 pEq (eVar 6) (eC (.int 1)))) (eCall m__law_due (aCons (eVar 3) (aCons (eVar 2) (aNil)))) (eCall m__law_due (aCons (eVar 2) (aCons (eVar 3) (aNil)))))) [.bx b, .fz (.bl nm), .fz (lv mA sA A), .fz (lv mB sB B), .fz (ov mA sA A), .fz (ov mB sB B), .fz (.int w), x7, x8] = .ret (.nx [.bx b, .fz (.bl nm), .fz (lv mA sA A), .fz (lv mB sB B), .fz (ov mA sA A), .fz (ov mB sB B), .fz (.int w), .fz (dueV D), x8]) := by
      simp [pEq_int, h', fzs, d]
    have s8 : (sSet 8 (eIf (gBl (eOp2 pEq (eVar 6) (eC (.int 1)))) (eCall m__law_asked (aCons (eVar 5) (aCons (eVar 4) (aCons (eVar 1) (aNil))))) (eCall m__law_asked (aCons (eVar 4) (aCons (eVar 5) (aCons (eVar 1) (aNil))))))) [.bx b, .fz (.bl nm), .fz (lv mA sA A), .fz (lv mB sB B), .fz (ov mA sA A), .fz (ov mB sB B), .fz (.int w), .fz (dueV D), x8] = .ret (.nx [.bx b, .fz (.bl nm), .fz (lv mA sA A), .fz (lv mB sB B), .fz (ov mA sA A), .fz (ov mB sB B), .fz (.int w), .fz (dueV D), .fz (toldV D)]) := by
      simp [pEq_int, h', fzs, a]
    unfold bWay
    rw [c_sSeq, s7]
    simp only [Wp.ret_bind]
    rw [c_sSeq, s8]
    simp only [Wp.ret_bind]
    exact t
theorem right_eq : m__law_right = fnV 9 pin0 (sSeq (sTgt (gL [2, 3]) (eCallB m__law_lines 0 (aNil))) (sSeq (sPar 4 5 (eNew 5 m_Line (aCons (eOp2 pIx (eVar 2) (eC (.int 0))) (aCons (eOp2 pIx (eVar 2) (eC (.int 2))) (aNil)))) (eNew 5 m_Line (aCons (eOp2 pIx (eVar 3) (eC (.int 0))) (aCons (eOp2 pIx (eVar 3) (eC (.int 2))) (aNil))))) (sSeq (sFor (gN 6) (iRng (eC (.int 3))) bWay) (sRet (eAnd (eCall m__law_is_line (aCons (eVar 4) (aCons (eVar 2) (aNil)))) (eCall m__law_is_line (aCons (eVar 5) (aCons (eVar 3) (aNil))))))))) := rfl
theorem right_run {b : Nat} {nm : Bool} (hb : b < 10000) {K : PV × List SV → Prop} {E : Ex × List SV → Prop} (hK : ∀ b', K (.bl true, [.bx b', .un])) : (m__law_right [.bx b, .fz (.bl nm)]).run K E := by
  rw [right_eq, fnV_eq rfl]
  refine run_of ?_
  rw [run_map, c_sSeq]
  refine run_of ?_
  show ((sTgt (gL [2, 3]) (eCallB m__law_lines 0 (aNil))) [SV.bx b, .fz (.bl nm), .un, .un, .un, .un, .un, .un, .un]).run _ _
  unfold sTgt
  refine run_of (boxed_run (n := b) rfl (v := []) rfl (lines_run (by omega) fun mA sA A mB sB B b1 hb1 oA oB => ?_))
  show (match some [SV.bx b1, .fz (.bl nm), .fz (lv mA sA A), .fz (lv mB sB B), .un, .un, .un, .un, .un] with
    | some ρ' => (.ret (.nx ρ') : Wp XE' Out)
    | none => .stuck).run _ _
  simp only [Wp.run_ret]
  have lA := line_ok true oA
  have lB := line_ok true oB
  rw [show wq true A = wv A from rfl] at lA
  rw [show wq true B = wv B from rfl] at lB
  have hp : (sPar 4 5 (eNew 5 m_Line (aCons (eOp2 pIx (eVar 2) (eC (.int 0))) (aCons (eOp2 pIx (eVar 2) (eC (.int 2))) (aNil)))) (eNew 5 m_Line (aCons (eOp2 pIx (eVar 3) (eC (.int 0))) (aCons (eOp2 pIx (eVar 3) (eC (.int 2))) (aNil))))) [SV.bx b1, .fz (.bl nm), .fz (lv mA sA A), .fz (lv mB sB B), .un, .un, .un, .un, .un] = .ret (.nx [SV.bx b1, .fz (.bl nm), .fz (lv mA sA A), .fz (lv mB sB B), .fz (ov mA sA A), .fz (ov mB sB B), .un, .un, .un]) := by
    simp [sPar, eNew, lA, lB, ov_eq]
  rw [c_sSeq, hp]
  simp only [Wp.ret_bind]
  rw [c_sSeq]
  refine run_of ?_
  have rg : iRange (.int 3) = some ((List.range 3).map fun (k : Nat) => PV.int k) := iRange_len (n := 3) (sl_le (by decide))
  rw [c_sFor, c_iRng, c_eC]
  simp only [Wp.ret_bind, rg, lift']
  refine for_inv (fun j ρ => ∃ nm b' a6 a7 a8, b' ≤ b1 + 1000 * j ∧ ρ = [.bx b', .fz (.bl nm), .fz (lv mA sA A), .fz (lv mB sB B), .fz (ov mA sA A), .fz (ov mB sB B), a6, a7, a8]) _ 0 _ ⟨nm, b1, .un, .un, .un, by omega, rfl⟩ (fun j x hx ρ1 ⟨nm, b', a6, a7, a8, hb', e⟩ => ?_) fun ρ' ⟨nm, b', a6, a7, a8, hb', e⟩ => ?_
  · obtain ⟨hj, rfl⟩ := range_at hx
    subst e
    refine ⟨[.bx b', .fz (.bl nm), .fz (lv mA sA A), .fz (lv mB sB B), .fz (ov mA sA A), .fz (ov mB sB B), .fz (.int j), a7, a8], rfl, fun {K E} hK => ?_⟩
    exact way_run oA oB hj (by omega) a7 a8 fun b2 y7 y8 hb2 => hK _ ⟨!nm, b2, _, y7, y8, by omega, rfl⟩
  · subst e
    have l1 := is_line_ok oA
    have l2 := is_line_ok oB
    have := hK b'
    simp [fzs, l1, l2, outs, SV.own]
    exact this
def pBody : GS := sSeq (sBox 2 (lCall m__law_box (aCons (eCall m__law_cell (aCons (eVar 0) (aCons (eVar 1) (aNil)))) (aNil)))) (sIf (gNot (gVal (eCallB m__law_right 2 (aCons (eOp2 pEq (eCallB mTake 2 (aCons (eC (.int 2)) (aNil))) (eC (.int 0))) (aNil))))) (sRet (eC (.bl false))) (sNil))
def pRng : GI := iRng (eOp2 pMax2 (eC (.int 1)) (eOp2 pMin2 (eC (.int 3)) (eOp1 pLen (eVar 0))))
theorem law_eq : m_law = fnV 3 noPin (sSeq (sFor (gN 1) pRng pBody) (sRet (eC (.bl true)))) := rfl
theorem body_run {ns : List Int} {k : Nat} (hk : k < 1000) (a2 : SV) {K : Out → Prop} {E : XE' → Prop} (hK : ∀ a1 a2, K (.nx [.fz (.scr ns), a1, a2])) : (pBody [.fz (.scr ns), .fz (.int k), a2]).run K E := by
  have bs := box_step (ρ := [.fz (.scr ns), .fz (.int k), a2]) (ns := ns) (k := k) rfl rfl hk
  unfold pBody
  rw [c_sSeq, bs]
  simp only [Wp.ret_bind, List.set_cons_succ, List.set_cons_zero]
  have t1 : eCallB mTake 2 (aCons (eC (.int 2)) aNil) [.fz (.scr ns), .fz (.int k), .bx 0] = _ := take_at rfl (by omega) (by omega) (by omega)
  have o : ownAt [SV.fz (.scr ns), .fz (.int k), .bx 0] 2 = true := rfl
  rw [c_sIf, c_gNot, c_gVal, c_eCallB, if_pos o, c_aCons, c_eOp2, t1]
  simp only [all_bind, Wp.ret_bind, all_run, List.set_cons_succ, List.set_cons_zero, c_eC, pEq_int, lift, c_aNil]
  intro d hd
  refine run_of (run_of (run_of (boxCall_run (n := 0 + 1) rfl (right_run (by omega) fun b' => ?_))))
  simp [truth]
  exact hK _ _
theorem law_true (ns : List Int) (hl : ns.length ≤ 63) (K : PV × List SV → Prop) (E : Ex × List SV → Prop) (h : K (.bl true, [.un])) : (m_law [.fz (.scr ns)]).run K E := by
  rw [law_eq, fnV_eq rfl]
  refine run_of ?_
  rw [run_map, c_sSeq]
  refine run_of ?_
  show ((sFor (gN 1) pRng pBody) [SV.fz (.scr ns), .un, .un]).run _ _
  rw [c_sFor]
  have m1 : pMin2 (.int 3) (.int ns.length) = some (.int ((min 3 ns.length : Nat) : Int)) := by
    unfold pMin2
    dsimp only
    congr 2
    split <;> omega
  have m2 := max_ok 1 (min 3 ns.length)
  rw [show ((1 : Nat) : Int) = 1 from rfl] at m2
  have rg := iRange_len (n := max 1 (min 3 ns.length)) (sl_le (by omega))
  have hr : pRng [SV.fz (.scr ns), .un, .un] = .ret ((List.range (max 1 (min 3 ns.length))).map fun (k : Nat) => PV.int k, [SV.fz (.scr ns), .un, .un]) := by
    unfold pRng
    rw [c_iRng, c_eOp2, c_eC, Wp.ret_bind, c_eOp2, c_eC, Wp.ret_bind, c_eOp1]
    simp only [c_eVar', List.getElem?_cons_zero, Wp.ret_bind, pLen, lift, m1, m2, rg, lift']
  rw [hr]
  simp only [Wp.ret_bind]
  refine for_inv (fun _ ρ => ∃ a1 a2, ρ = [.fz (.scr ns), a1, a2]) _ 0 _ ⟨_, _, rfl⟩ (fun j x hx ρ1 ⟨a1, a2, e⟩ => ?_) fun ρ' ⟨a1, a2, e⟩ => ?_
  · obtain ⟨hj, rfl⟩ := range_at hx
    subst e
    exact ⟨_, rfl, fun {K E} hK => body_run (by omega) a2 fun a1 a2 => hK _ ⟨_, _, rfl⟩⟩
  · subst e
    exact h
end k05

set_option Elab.async false
set_option linter.all false
set_option maxRecDepth 100000
set_option maxHeartbeats 1000000
namespace k05
open PySem PySem.Spec PyProof.Rows L2 VL
/-- the law's own contract, no error let out -/
def spLaw (K : PySem.W.Frag) : Sp := fun vs H Q _ => ∃ (a : Addr) (ns : List Int), vs = [.ref a] ∧ ns.length ≤ 63 ∧ Only H ∧ SqL K H a (ns.map V.int) ∧ ∀ H', Q (.bl true) H'
theorem law_sp {K : PySem.W.Frag} {vs : List V} {H : Hp} {Q : VK} {E : XK} (h : spLaw K vs H Q E) : SpV (cc K fun _ => False) 1 m_law vs H Q E := by
  obtain ⟨a, ns, rfl, hl, hO, hS, q⟩ := h
  refine ⟨rfl, H, [.fz (.scr ns)], Reps.er (Same.refl H) (fun p b => False.elim b) (.cons (.scr hS) .nil), law_true ns hl _ _ fun w F' H' st rp => ?_⟩
  cases rp
  exact q H'
theorem noCX {P : Program} {w : World} (H : Hp) (s : Shared) (e : Value) (s' : Shared) (z : L2.CX P w [] H s (fun _ _ _ => False) e s') : False := by
  obtain ⟨_, _, _, _, _, _, _, _, _, _, _, _, z⟩ := z
  exact z
theorem all_mk {P : Program} {w : World} {K : PySem.W.Frag} {h : Heap} {mg : Str → Option Value} {fa_ : Addr} (X : K.In h) (G : h.Ns mainGlobals mg) (hfa : mg "law" = some (.ref fa_)) (c : He.SaysT fa fnD tsD w K) (e : exB K = true) :
    ∃ fd : FuncData, (∀ (s : Shared) (u : Value), BindsTo s fd ⟨[u], []⟩ [("script", u)]) ∧ ∀ base : Heap, K.In base → base.Ns mainGlobals mg → FnOk P w K mg base (L2.CX P w) 16 fa_ fd ["script"] (spLaw K) := by
  have T := txt_of X G c e
  obtain ⟨f, fd, hm, _, Fn⟩ := all_fv (P := P) (base := h) T take_ok (B := fun _ => False)
  have e1 := hfa.symm.trans hm
  cases e1
  obtain ⟨oc, od, kV, doc, pm, an, cdv, ct, osl, e2, lk, hcd⟩ := Fn.ex
  refine ⟨fd, fun s u => by subst e2; exact .of_eq rfl, fun base _ _ => ?_⟩
  obtain ⟨f2, fd2, hm2, ok, Fn2⟩ := all_fv (P := P) (base := base) T take_ok (B := fun _ => False)
  have e3 := hm2.symm.trans hm
  cases e3
  obtain ⟨oc2, od2, kV2, doc2, pm2, an2, cdv2, ct2, osl2, e4, lk2, hcd2⟩ := Fn2.ex
  rw [lk] at lk2
  cases lk2
  exact ok.imp fun vs H Q E h => law_sp h
end k05
open PySem PySem.W PyProof.Rows
set_option maxHeartbeats 0 in
theorem PySem.Challenge.cw_nestedhands_k05_lines_beside_holds : PySem.Challenge.rw_nestedhands_k05_lines_beside.Holds := by
  w_on; o_law; k_head; (case hw => w_witness2)
  k_fill
  refine L2.walk_of (l := PySem.Challenge.rw_nestedhands_k05_lines_beside) (n := 63) (k := 16) (x := "script") (CX := fun w => L2.CX PySem.Challenge.rw_nestedhands_k05_lines_beside.prog w) (sp := fun w => k05.spLaw _) rfl (by decide) rfl ⟨rfl, by decide, by decide⟩ (fun w h Y => PySem.W.kIn_of Y) ?F (fun _ _ a ns hl hO hS => ⟨a, ns, rfl, hl, hO, hS, fun _ => rfl⟩) (fun _ => k05.noCX)
  case F =>
    intro w mg fa h KX G hmg
    exact k05.all_mk KX G hmg (show He.obsT k05.fa k05.fnD k05.tsD _ = He.valT k05.fnD k05.tsD w from by kernel_rfl) (by kernel_rfl)

