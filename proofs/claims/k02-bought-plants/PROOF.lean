import PyProof.Rows.All
import HandS.ForMost
import HandS.ForExc
import HandS.ExcInit
import HandS.ExcField
import HandS.CallSlots
import HandS.TryMany
import HandS.IsInst
import HandS.Style
import HandS.Flow
import HandS.Conv
import HandS.Codes
import HandS.Wide
import HandS.TupAny
import HandS.Deep
import HandS.Iter
import HandS.ExcIs
import HandS.Small
import HandS.HeadHook4
import PyProof.StrLawsIdx
import PyProof.StrLawsNeg
import PyProof.StrLawsTight
import PyProof.StrLawsChain
import HandS.FStr
import HandS.DictComp
import PyProof.P3Eq
import HandS.TryOnly
import HandS.TupSets
import HandS.SetFor
import HandS.SortInts
import HandS.SortOrd
import HandS.NamedTupSort
import HandS.Strs
import PyProof.ReprRoads
import HandS.Ends
import HandS.FStrTup
import PyProof.Rows.StrJoinMade
import PySem.Challenge.RW_nestedhands_k02_bought_plants
set_option Elab.async false
set_option linter.all false
set_option maxRecDepth 100000
/-! VL, part 1: trees as values, programs as predicate transformers, the judgements. -/
namespace VL
open PySem PySem.Spec PyProof.Rows L2

abbrev St := L2.St
/-! ### predicate transformers -/
structure Wp (ε α : Type) where
  run : (α → Prop) → (ε → Prop) → Prop
  mono : ∀ {K K' : α → Prop} {E E' : ε → Prop}, (∀ a, K a → K' a) → (∀ e, E e → E' e) → run K E → run K' E'
namespace Wp
variable {ε ε' α β : Type}
def ret (a : α) : Wp ε α := ⟨fun K _ => K a, fun h _ x => h _ x⟩
def bind (m : Wp ε α) (f : α → Wp ε β) : Wp ε β := ⟨fun K E => m.run (fun a => (f a).run K E) E, fun h e x => m.mono (fun a => (f a).mono h e) e x⟩
def stuck : Wp ε α := ⟨fun _ _ => False, fun _ _ x => x⟩
def raise (e : ε) : Wp ε α := ⟨fun _ E => E e, fun _ h x => h _ x⟩
def mapE (g : ε → ε') (m : Wp ε α) : Wp ε' α := ⟨fun K E => m.run K fun e => E (g e), fun h e x => m.mono h (fun _ => e _) x⟩
def all (p : ι → Prop) (f : ι → Wp ε α) : Wp ε α := ⟨fun K E => ∀ i, p i → (f i).run K E, fun h e x i hi => (f i).mono h e (x i hi)⟩
def ofOpt (o : Option α) : Wp ε α := match o with
  | some a => ret a
  | none => stuck
@[simp] theorem ret_bind (a : α) (f : α → Wp ε β) : (ret a : Wp ε α).bind f = f a := (rfl)
@[simp] theorem stuck_bind (f : α → Wp ε β) : (stuck : Wp ε α).bind f = stuck := (rfl)
@[simp] theorem raise_bind (e : ε) (f : α → Wp ε β) : (raise e : Wp ε α).bind f = raise e := (rfl)
@[simp] theorem bind_bind {γ : Type} (m : Wp ε α) (f : α → Wp ε β) (g : β → Wp ε γ) : (m.bind f).bind g = m.bind fun a => (f a).bind g := (rfl)
@[simp] theorem bind_ret (m : Wp ε α) : m.bind ret = m := (rfl)
@[simp] theorem ofOpt_some (a : α) : (ofOpt (some a) : Wp ε α) = ret a := (rfl)
@[simp] theorem ofOpt_none : (ofOpt none : Wp ε α) = stuck := (rfl)
@[simp] theorem run_ret (a : α) (K : α → Prop) (E : ε → Prop) : (ret a : Wp ε α).run K E = K a := (rfl)
@[simp] theorem run_raise (a : ε) (K : α → Prop) (E : ε → Prop) : (raise a : Wp ε α).run K E = E a := (rfl)
@[simp] theorem run_bind (m : Wp ε α) (f : α → Wp ε β) (K : β → Prop) (E : ε → Prop) : (m.bind f).run K E = m.run (fun a => (f a).run K E) E := (rfl)
@[simp] theorem mapE_ret (g : ε → ε') (a : α) : (ret a : Wp ε α).mapE g = ret a := (rfl)
@[simp] theorem mapE_raise (g : ε → ε') (a : ε) : (raise a : Wp ε α).mapE g = raise (g a) := (rfl)
@[simp] theorem mapE_stuck (g : ε → ε') : (stuck : Wp ε α).mapE g = stuck := (rfl)
@[simp] theorem mapE_bind (g : ε → ε') (m : Wp ε α) (f : α → Wp ε β) : (m.bind f).mapE g = (m.mapE g).bind fun a => (f a).mapE g := (rfl)
theorem ext_run {m m' : Wp ε α} (h : ∀ K E, m.run K E ↔ m'.run K E) : m = m' := by
  obtain ⟨r, p⟩ := m
  obtain ⟨r', p'⟩ := m'
  have e : r = r' := funext fun K => funext fun E => propext (h K E)
  subst e
  rfl
end Wp

/-! ### trees -/
inductive PV where
  | non | bl (b : Bool) | int (i : Int) | str (x : Str)
  | tup (xs : List PV) | lst (g : Option Addr) (xs : List PV)
  | dic (g : Option Addr) (kvs : List (Key × PV))
  | ins (c : Nat) (fs : List (Str × PV))
  | scr (ns : List Int)
  /-- nothing known -/
  | any

/-- what is fixed of a run: the written part, the classes' addresses -/
structure Cn where
  K : PySem.W.Frag
  cA : Nat → Addr
  /-- what was there before: never a tagged node -/
  B : Addr → Prop

mutual
inductive Rep (c : Cn) (F : Hp) : V → PV → Prop
  | non : Rep c F .non .non
  | bl (b : Bool) : Rep c F (.bl b) (.bl b)
  | int (i : Int) : Rep c F (.int i) (.int i)
  | str (x : Str) : Rep c F (.str x) (.str x)
  | tup {a : Addr} {vs : List V} {xs : List PV} (h : F a = some (.tup vs)) (r : Reps c F vs xs) : Rep c F (.ref a) (.tup xs)
  | lst {a : Addr} {vs : List V} {g : Option Addr} {xs : List PV} (h : F a = some (.lst vs)) (r : Reps c F vs xs) (t : ∀ p, g = some p → p = a ∧ ¬ c.B p) : Rep c F (.ref a) (.lst g xs)
  | dic {a : Addr} {vs : List (Key × V)} {g : Option Addr} {xs : List (Key × PV)} (h : F a = some (.dK vs)) (r : RepD c F vs xs) (t : ∀ p, g = some p → p = a ∧ ¬ c.B p) : Rep c F (.ref a) (.dic g xs)
  | ins {a dx : Addr} {vs : List (Str × V)} {k : Nat} {xs : List (Str × PV)} (h : F a = some (.ins (c.cA k) dx vs)) (r : RepF c F vs xs) : Rep c F (.ref a) (.ins k xs)
  | scr {a : Addr} {ns : List Int} (h : SqL c.K F a (ns.map V.int)) : Rep c F (.ref a) (.scr ns)
  | any (v : V) : Rep c F v .any
inductive Reps (c : Cn) (F : Hp) : List V → List PV → Prop
  | nil : Reps c F [] []
  | cons {v : V} {x : PV} {vs : List V} {xs : List PV} (h : Rep c F v x) (r : Reps c F vs xs) : Reps c F (v :: vs) (x :: xs)
inductive RepD (c : Cn) (F : Hp) : List (Key × V) → List (Key × PV) → Prop
  | nil : RepD c F [] []
  | cons {k : Key} {v : V} {x : PV} {vs : List (Key × V)} {xs : List (Key × PV)} (h : Rep c F v x) (r : RepD c F vs xs) : RepD c F ((k, v) :: vs) ((k, x) :: xs)
inductive RepF (c : Cn) (F : Hp) : List (Str × V) → List (Str × PV) → Prop
  | nil : RepF c F [] []
  | cons {k : Str} {v : V} {x : PV} {vs : List (Str × V)} {xs : List (Str × PV)} (h : Rep c F v x) (r : RepF c F vs xs) : RepF c F ((k, v) :: vs) ((k, x) :: xs)
end

mutual
theorem Rep.mono {c : Cn} {F F' : Hp} (e : Same F F') : ∀ {v : V} {x : PV}, Rep c F v x → Rep c F' v x
  | _, _, .non => .non
  | _, _, .bl b => .bl b
  | _, _, .int i => .int i
  | _, _, .str x => .str x
  | _, _, .tup h r => .tup (e _ _ h) (Reps.mono e r)
  | _, _, .lst h r t => .lst (e _ _ h) (Reps.mono e r) t
  | _, _, .dic h r t => .dic (e _ _ h) (RepD.mono e r) t
  | _, _, .ins h r => .ins (e _ _ h) (RepF.mono e r)
  | _, _, .scr h => .scr (e.seq h)
  | _, _, .any v => .any v
theorem Reps.mono {c : Cn} {F F' : Hp} (e : Same F F') : ∀ {vs : List V} {xs : List PV}, Reps c F vs xs → Reps c F' vs xs
  | _, _, .nil => .nil
  | _, _, .cons h r => .cons (Rep.mono e h) (Reps.mono e r)
theorem RepD.mono {c : Cn} {F F' : Hp} (e : Same F F') : ∀ {vs : List (Key × V)} {xs : List (Key × PV)}, RepD c F vs xs → RepD c F' vs xs
  | _, _, .nil => .nil
  | _, _, .cons h r => .cons (Rep.mono e h) (RepD.mono e r)
theorem RepF.mono {c : Cn} {F F' : Hp} (e : Same F F') : ∀ {vs : List (Str × V)} {xs : List (Str × PV)}, RepF c F vs xs → RepF c F' vs xs
  | _, _, .nil => .nil
  | _, _, .cons h r => .cons (Rep.mono e h) (RepF.mono e r)
end

section
variable {c : Cn} {F : Hp}
theorem Reps.length : ∀ {vs : List V} {xs : List PV}, Reps c F vs xs → vs.length = xs.length
  | _, _, .nil => rfl
  | _, _, .cons _ r => congrArg Nat.succ (Reps.length r)
theorem Reps.get : ∀ {vs : List V} {xs : List PV} {i : Nat} {x : PV}, Reps c F vs xs → xs[i]? = some x → ∃ v, vs[i]? = some v ∧ Rep c F v x
  | _, _, i, x, .nil, e => by simp at e
  | _, _, 0, x, .cons h _, e => by simp at e; subst e; exact ⟨_, rfl, h⟩
  | _, _, i + 1, x, .cons _ r, e => by
    obtain ⟨v, h1, h2⟩ := Reps.get (i := i) (x := x) r (by simpa using e)
    exact ⟨v, by simpa using h1, h2⟩
theorem Reps.getV : ∀ {vs : List V} {xs : List PV} {i : Nat} {v : V}, Reps c F vs xs → vs[i]? = some v → ∃ x, xs[i]? = some x ∧ Rep c F v x
  | _, _, i, x, .nil, e => by simp at e
  | _, _, 0, x, .cons h _, e => by simp at e; subst e; exact ⟨_, rfl, h⟩
  | _, _, i + 1, x, .cons _ r, e => by
    obtain ⟨v, h1, h2⟩ := Reps.getV (i := i) (v := x) r (by simpa using e)
    exact ⟨v, by simpa using h1, h2⟩
theorem Reps.append : ∀ {vs ws : List V} {xs ys : List PV}, Reps c F vs xs → Reps c F ws ys → Reps c F (vs ++ ws) (xs ++ ys)
  | _, _, _, _, .nil, s => s
  | _, _, _, _, .cons h r, s => .cons h (Reps.append r s)
theorem Reps.take : ∀ {vs : List V} {xs : List PV} (n : Nat), Reps c F vs xs → Reps c F (vs.take n) (xs.take n)
  | _, _, 0, _ => .nil
  | _, _, _ + 1, .nil => .nil
  | _, _, n + 1, .cons h r => .cons h (Reps.take n r)
theorem Reps.drop : ∀ {vs : List V} {xs : List PV} (n : Nat), Reps c F vs xs → Reps c F (vs.drop n) (xs.drop n)
  | _, _, 0, r => r
  | _, _, _ + 1, .nil => .nil
  | _, _, n + 1, .cons _ r => Reps.drop n r
theorem Reps.set {v : V} {x : PV} (h : Rep c F v x) : ∀ {vs : List V} {xs : List PV} (i : Nat), Reps c F vs xs → Reps c F (vs.set i v) (xs.set i x)
  | _, _, _, .nil => .nil
  | _, _, 0, .cons _ r => .cons h r
  | _, _, i + 1, .cons q r => .cons q (Reps.set h i r)
theorem Reps.ofInts : ∀ ns : List Int, Reps c F (ns.map V.int) (ns.map PV.int)
  | [] => .nil
  | n :: ns => .cons (.int n) (Reps.ofInts ns)
theorem Reps.isEmpty {vs : List V} {xs : List PV} (r : Reps c F vs xs) : vs.isEmpty = xs.isEmpty := by cases r <;> rfl
theorem RepF.lookup {k : Str} {x : PV} : ∀ {vs : List (Str × V)} {xs : List (Str × PV)}, RepF c F vs xs → xs.lookup k = some x → ∃ v, vs.lookup k = some v ∧ Rep c F v x
  | _, _, .nil, e => by simp at e
  | _, _, .cons (k := k') h r, e => by
    rw [List.lookup_cons] at e ⊢
    cases hk : k == k' with
    | true => rw [hk] at e; exact ⟨_, rfl, by cases e; exact h⟩
    | false => rw [hk] at e; exact RepF.lookup r e
theorem RepF.lookupN {k : Str} : ∀ {vs : List (Str × V)} {xs : List (Str × PV)}, RepF c F vs xs → xs.lookup k = none → vs.lookup k = none
  | _, _, .nil, e => by simp
  | _, _, .cons (k := k') h r, e => by
    rw [List.lookup_cons] at e ⊢
    cases hk : k == k' with
    | true => rw [hk] at e; cases e
    | false => rw [hk] at e; exact RepF.lookupN r e
theorem RepD.length : ∀ {vs : List (Key × V)} {xs : List (Key × PV)}, RepD c F vs xs → vs.length = xs.length
  | _, _, .nil => rfl
  | _, _, .cons _ r => congrArg Nat.succ (RepD.length r)
end

/-! ### slots -/
inductive SV where
  | un | fz (v : PV) | ow (xs : List PV) | bx (n : Nat)
abbrev Env' := List SV
def SV.own : SV → Bool
  | .ow _ => true
  | .bx _ => true
  | _ => false
/-- the law's box of digits: its count is at most n -/
def BoxOk (n : Nat) (vs : List V) : Prop := ∃ (a : Int) (b : Bool) (d m : Int), vs = [.int a, .bl b, .int d, .int m] ∧ 0 ≤ a ∧ 0 ≤ d ∧ d < 2147483629 ∧ 0 ≤ m ∧ m ≤ n
theorem BoxOk.le {n m : Nat} {vs : List V} (h : BoxOk n vs) (e : n ≤ m) : BoxOk m vs := by
  obtain ⟨a, b, d, k, e1, h1, h2, h3, h4, h5⟩ := h
  exact ⟨a, b, d, k, e1, h1, h2, h3, h4, by omega⟩
def SlotR (c : Cn) (F H : Hp) (o : Option V) (s : SV) : Prop := match s with
  | .un => True
  | .fz v => ∃ w, o = some w ∧ Rep c F w v
  | .ow xs => ∃ p vs, o = some (.ref p) ∧ F p = none ∧ H p = some (.lst vs) ∧ Reps c F vs xs
  | .bx n => ∃ p vs, o = some (.ref p) ∧ F p = none ∧ H p = some (.lst vs) ∧ BoxOk n vs
def Own (σ : St) (ρ : Env') (p : Addr) : Prop := ∃ (i : Nat) (s : SV), σ[i]? = some (some (.ref p)) ∧ ρ[i]? = some s ∧ s.own = true
structure ER (c : Cn) (F H : Hp) (σ : St) (ρ : Env') : Prop where
  sub : Same F H
  len : σ.length = ρ.length
  slot : ∀ (i : Nat) (o : Option V) (s : SV), σ[i]? = some o → ρ[i]? = some s → SlotR c F H o s
  dis : ∀ (i j : Nat) (s t : SV) (p : Addr), σ[i]? = some (some (.ref p)) → σ[j]? = some (some (.ref p)) → ρ[i]? = some s → ρ[j]? = some t → s.own = true → t.own = true → i = j
  mrk : ∀ p, c.B p → ∃ o, H p = some o

/-- the frozen part grows, what is not owned stays -/
structure Stp (F H : Hp) (S : Addr → Prop) (F' H' : Hp) (S' : Addr → Prop) : Prop where
  ff : Same F F'
  hh : ∀ p o, H p = some o → ¬ S p → H' p = some o ∧ (F p = none → F' p = none)
  th : ∀ p o, H p = some o → ∃ o', H' p = some o'
  ow : ∀ p, S' p → S p ∨ H p = none
theorem Stp.refl (F H : Hp) (S : Addr → Prop) : Stp F H S F H S := ⟨Same.refl F, fun _ _ h _ => ⟨h, fun z => z⟩, fun _ o h => ⟨o, h⟩, fun _ h => .inl h⟩
theorem Stp.trans {F H F1 H1 F2 H2 : Hp} {S S1 S2 : Addr → Prop} (a : Stp F H S F1 H1 S1) (b : Stp F1 H1 S1 F2 H2 S2) : Stp F H S F2 H2 S2 where
  ff := a.ff.trans b.ff
  hh := fun p o h n => by
    obtain ⟨h1, f1⟩ := a.hh p o h n
    have n1 : ¬ S1 p := fun z => (a.ow p z).elim n fun q => by rw [h] at q; cases q
    obtain ⟨h2, f2⟩ := b.hh p o h1 n1
    exact ⟨h2, fun z => f2 (f1 z)⟩
  th := fun p o h => by
    obtain ⟨o1, h1⟩ := a.th p o h
    exact b.th p o1 h1
  ow := fun p h => by
    rcases b.ow p h with h | h
    · exact a.ow p h
    · refine .inr ?_
      cases q : H p with
      | none => rfl
      | some o =>
        obtain ⟨o1, h1⟩ := a.th p o q
        rw [h1] at h
        cases h
/-- both grow, nothing changes -/
structure Grow (F H F' H' : Hp) : Prop where
  ff : Same F F'
  hh : Same H H'
  sub : Same F' H'
  nf : ∀ p o, H p = some o → F p = none → F' p = none
theorem Grow.refl {F H : Hp} (s : Same F H) : Grow F H F H := ⟨Same.refl F, Same.refl H, s, fun _ _ _ z => z⟩
theorem Grow.trans {F H F1 H1 F2 H2 : Hp} (a : Grow F H F1 H1) (b : Grow F1 H1 F2 H2) : Grow F H F2 H2 :=
  ⟨a.ff.trans b.ff, a.hh.trans b.hh, b.sub, fun p o h z => b.nf p o (a.hh p o h) (a.nf p o h z)⟩
theorem Grow.stp {F H F' H' : Hp} (g : Grow F H F' H') (S : Addr → Prop) : Stp F H S F' H' S :=
  ⟨g.ff, fun p o h _ => ⟨g.hh p o h, g.nf p o h⟩, fun p o h => ⟨o, g.hh p o h⟩, fun _ h => .inl h⟩
theorem upd_grow {F H : Hp} {p : Addr} {o : HO} (s : Same F H) (n : H p = none) : Grow F H (upd F p o) (upd H p o) where
  ff := fun b u h => by
    have hb : b ≠ p := fun z => by rw [z] at h; rw [s _ _ h] at n; cases n
    rw [upd_ne hb]; exact h
  hh := fun b u h => by rw [upd_ne (ne_of_none h n)]; exact h
  sub := fun b u h => by
    by_cases hb : b = p
    · subst hb; rw [upd_same] at h ⊢; exact h
    · rw [upd_ne hb] at h ⊢; exact s _ _ h
  nf := fun b u h z => by rw [upd_ne (ne_of_none h n)]; exact z
/-- only the heap grows -/
theorem upd_growH {F H : Hp} {p : Addr} {o : HO} (s : Same F H) (n : H p = none) : Grow F H F (upd H p o) where
  ff := Same.refl F
  hh := fun b u h => by rw [upd_ne (ne_of_none h n)]; exact h
  sub := fun b u h => by rw [upd_ne (ne_of_none (s _ _ h) n)]; exact s _ _ h
  nf := fun _ _ _ z => z
section
variable {c : Cn} {F H F' H' : Hp} {σ : St} {ρ : Env'}
theorem SlotR.grow {o : Option V} {s : SV} (g : Grow F H F' H') (h : SlotR c F H o s) : SlotR c F' H' o s := by
  cases s with
  | un => trivial
  | fz v => obtain ⟨w, e, r⟩ := h; exact ⟨w, e, r.mono g.ff⟩
  | ow xs => obtain ⟨p, vs, e, f, h, r⟩ := h; exact ⟨p, vs, e, g.nf _ _ h f, g.hh _ _ h, r.mono g.ff⟩
  | bx n => obtain ⟨p, vs, e, f, h, r⟩ := h; exact ⟨p, vs, e, g.nf _ _ h f, g.hh _ _ h, r⟩
theorem ER.grow (e : ER c F H σ ρ) (g : Grow F H F' H') : ER c F' H' σ ρ :=
  ⟨g.sub, e.len, fun i o s h1 h2 => (e.slot i o s h1 h2).grow g, e.dis, fun p b => (e.mrk p b).imp fun o h => g.hh p o h⟩
theorem ER.fz (e : ER c F H σ ρ) {i : Nat} {v : PV} (h : ρ[i]? = some (.fz v)) : ∃ w, σ[i]? = some (some w) ∧ Rep c F w v := by
  have hi : i < σ.length := by rw [e.len]; exact (List.getElem?_eq_some_iff.mp h).1
  obtain ⟨w, q, r⟩ := e.slot i σ[i] _ (List.getElem?_eq_getElem hi) h
  exact ⟨w, by rw [List.getElem?_eq_getElem hi, q], r⟩
theorem ER.ow (e : ER c F H σ ρ) {i : Nat} {xs : List PV} (h : ρ[i]? = some (.ow xs)) : ∃ p vs, σ[i]? = some (some (.ref p)) ∧ F p = none ∧ H p = some (.lst vs) ∧ Reps c F vs xs := by
  have hi : i < σ.length := by rw [e.len]; exact (List.getElem?_eq_some_iff.mp h).1
  obtain ⟨p, vs, q, r⟩ := e.slot i σ[i] _ (List.getElem?_eq_getElem hi) h
  exact ⟨p, vs, by rw [List.getElem?_eq_getElem hi, q], r⟩
theorem ER.bx (e : ER c F H σ ρ) {i : Nat} {n : Nat} (h : ρ[i]? = some (.bx n)) : ∃ p vs, σ[i]? = some (some (.ref p)) ∧ F p = none ∧ H p = some (.lst vs) ∧ BoxOk n vs := by
  have hi : i < σ.length := by rw [e.len]; exact (List.getElem?_eq_some_iff.mp h).1
  obtain ⟨p, vs, q, r⟩ := e.slot i σ[i] _ (List.getElem?_eq_getElem hi) h
  exact ⟨p, vs, by rw [List.getElem?_eq_getElem hi, q], r⟩
theorem Own.tracked (e : ER c F H σ ρ) {p : Addr} (h : Own σ ρ p) : F p = none ∧ ∃ vs, H p = some (.lst vs) := by
  obtain ⟨i, s, h1, h2, h3⟩ := h
  have q := e.slot i _ s h1 h2
  cases s with
  | un => cases h3
  | fz v => cases h3
  | ow xs => obtain ⟨p', vs, e1, f, h, _⟩ := q; cases e1; exact ⟨f, vs, h⟩
  | bx n => obtain ⟨p', vs, e1, f, h, _⟩ := q; cases e1; exact ⟨f, vs, h⟩
end

/-! ### exceptions -/
structure Ex where
  k : Nat
  fs : List (Str × PV)
def ExD (c : Cn) (F H : Hp) (d : Option Addr) (fs : List (Str × PV)) : Prop := (∃ d' vs, d = some d' ∧ H d' = some (.xd vs) ∧ RepF c F vs fs) ∨ (d = none ∧ fs = [])

/-! ### the readings -/
abbrev XE' := Ex × Env'
/-- an expression as a program over the slots -/
abbrev GE := Env' → Wp XE' (PV × Env')
abbrev GT := Env' → Wp XE' (Bool × Env')
section
variable (c : Cn)
def StpE (σ : St) (ρ : Env') (F H : Hp) (ρ' : Env') (F' H' : Hp) : Prop := Stp F H (Own σ ρ) F' H' (Own σ ρ') ∧ ER c F' H' σ ρ'
def OkE (σ : St) (ρ : Env') (F H : Hp) (Q : VK) : PV × Env' → Prop := fun r => ∀ w F' H', StpE c σ ρ F H r.2 F' H' → Rep c F' w r.1 → Q w H'
def OkT (σ : St) (ρ : Env') (F H : Hp) (Q : Bool → Hp → Prop) : Bool × Env' → Prop := fun r => ∀ F' H', StpE c σ ρ F H r.2 F' H' → Q r.1 H'
def ErE (W : WX) (σ : St) (ρ : Env') (F H : Hp) : XE' → Prop := fun e => ∀ d F' H', StpE c σ ρ F H e.2 F' H' → ExD c F' H' d e.1.fs → W (.ref (c.cA e.1.k)) d σ H'
def tE (W : WX) (g : GE) : TE := fun σ H Q => ∃ ρ F, ER c F H σ ρ ∧ (g ρ).run (OkE c σ ρ F H Q) (ErE c W σ ρ F H)
def tT (W : WX) (g : GT) : TT := fun σ H Q => ∃ ρ F, ER c F H σ ρ ∧ (g ρ).run (OkT c σ ρ F H Q) (ErE c W σ ρ F H)
end

section
variable {c : Cn} {σ : St} {ρ ρ1 ρ2 : Env'} {F H F1 H1 F2 H2 : Hp} {W : WX} {Q : VK}
theorem StpE.refl (e : ER c F H σ ρ) : StpE c σ ρ F H ρ F H := ⟨Stp.refl _ _ _, e⟩
theorem StpE.trans (a : StpE c σ ρ F H ρ1 F1 H1) (b : StpE c σ ρ1 F1 H1 ρ2 F2 H2) : StpE c σ ρ F H ρ2 F2 H2 := ⟨a.1.trans b.1, b.2⟩
theorem Grow.stpE (e : ER c F H σ ρ) (g : Grow F H F1 H1) : StpE c σ ρ F H ρ F1 H1 := ⟨g.stp _, e.grow g⟩
theorem OkE.step {r : PV × Env'} (s : StpE c σ ρ F H ρ1 F1 H1) (h : OkE c σ ρ F H Q r) : OkE c σ ρ1 F1 H1 Q r := fun w F' H' q r => h w F' H' (s.trans q) r
theorem OkT.step {Q : Bool → Hp → Prop} {r : Bool × Env'} (s : StpE c σ ρ F H ρ1 F1 H1) (h : OkT c σ ρ F H Q r) : OkT c σ ρ1 F1 H1 Q r := fun F' H' q => h F' H' (s.trans q)
theorem ErE.step {r : XE'} (s : StpE c σ ρ F H ρ1 F1 H1) (h : ErE c W σ ρ F H r) : ErE c W σ ρ1 F1 H1 r := fun d F' H' q r => h d F' H' (s.trans q) r
theorem run_step {m : Wp XE' (PV × Env')} (s : StpE c σ ρ F H ρ1 F1 H1) (h : m.run (OkE c σ ρ F H Q) (ErE c W σ ρ F H)) : m.run (OkE c σ ρ1 F1 H1 Q) (ErE c W σ ρ1 F1 H1) :=
  m.mono (fun _ => OkE.step s) (fun _ => ErE.step s) h
theorem run_stepT {Q : Bool → Hp → Prop} {m : Wp XE' (Bool × Env')} (s : StpE c σ ρ F H ρ1 F1 H1) (h : m.run (OkT c σ ρ F H Q) (ErE c W σ ρ F H)) : m.run (OkT c σ ρ1 F1 H1 Q) (ErE c W σ ρ1 F1 H1) :=
  m.mono (fun _ => OkT.step s) (fun _ => ErE.step s) h
/-- the first part of a program is an expression's -/
theorem tE_bind {g : GE} {k : PV × Env' → Wp XE' α} {R : VK} {Z : α → Prop} (er : ER c F H σ ρ) (h : ((g ρ).bind k).run Z (ErE c W σ ρ F H))
    (hk : ∀ v ρ1 w F1 H1, StpE c σ ρ F H ρ1 F1 H1 → Rep c F1 w v → (k (v, ρ1)).run Z (ErE c W σ ρ1 F1 H1) → R w H1) : tE c W g σ H R :=
  ⟨ρ, F, er, (g ρ).mono (fun r h1 w F1 H1 st rep => hk r.1 r.2 w F1 H1 st rep ((k r).mono (fun _ z => z) (fun _ => ErE.step st) h1)) (fun _ z => z) h⟩
theorem tT_bind {g : GT} {k : Bool × Env' → Wp XE' α} {R : Bool → Hp → Prop} {Z : α → Prop} (er : ER c F H σ ρ) (h : ((g ρ).bind k).run Z (ErE c W σ ρ F H))
    (hk : ∀ v ρ1 F1 H1, StpE c σ ρ F H ρ1 F1 H1 → (k (v, ρ1)).run Z (ErE c W σ ρ1 F1 H1) → R v H1) : tT c W g σ H R :=
  ⟨ρ, F, er, (g ρ).mono (fun r h1 F1 H1 st => hk r.1 r.2 F1 H1 st ((k r).mono (fun _ z => z) (fun _ => ErE.step st) h1)) (fun _ z => z) h⟩
end

/-! ### weakening -/
section
variable {X : Cx}
theorem imp_PE {e : Expr} {t t' : TE} (h : PE X e t) (f : ∀ σ H Q, t' σ H Q → t σ H Q) : PE X e t' := ⟨fun pins s σ H Q I hw => h.run pins s σ H Q I (f σ H Q hw)⟩
theorem imp_PT {e : Expr} {t t' : TT} (h : PT X e t) (f : ∀ σ H Q, t' σ H Q → t σ H Q) : PT X e t' := ⟨fun pins s σ H Q I hw => h.run pins s σ H Q I (f σ H Q hw)⟩
theorem imp_PW {e : Expr} {t t' : TT} (h : PW X e t) (f : ∀ σ H Q, t' σ H Q → t σ H Q) : PW X e t' := ⟨fun wh pins s σ H Q I hw => h.run wh pins s σ H Q I (f σ H Q hw)⟩
theorem imp_PA {e : List Expr} {t t' : TA} (h : PA X e t) (f : ∀ σ H Q, t' σ H Q → t σ H Q) : PA X e t' := ⟨fun pos pins s σ H Q I hw => h.run pos pins s σ H Q I (f σ H Q hw)⟩
theorem imp_PS {e : Stmt} {t t' : TS} (h : PS X e t) (f : ∀ D σ H, t' D σ H → t D σ H) : PS X e t' := ⟨fun pins s σ H D I hw => h.run pins s σ H D I (f D σ H hw)⟩
theorem imp_PSs {e : List Stmt} {t t' : TS} (h : PSs X e t) (f : ∀ D σ H, t' D σ H → t D σ H) : PSs X e t' := ⟨fun pins s σ H D I hw => h.run pins s σ H D I (f D σ H hw)⟩
end
end VL

set_option Elab.async false
set_option linter.all false
set_option maxRecDepth 100000
set_option maxHeartbeats 1000000
/-! VL, part 2: expressions. -/
namespace VL
open PySem PySem.Spec PyProof.Rows L2

def lift (o : Option PV) (ρ : Env') : Wp XE' (PV × Env') := match o with
  | some v => .ret (v, ρ)
  | none => .stuck
@[simp] theorem lift_some (v : PV) (ρ : Env') : lift (some v) ρ = .ret (v, ρ) := (rfl)
@[simp] theorem lift_none (ρ : Env') : lift none ρ = .stuck := (rfl)
theorem lift_run {o : Option PV} {ρ : Env'} {K : PV × Env' → Prop} {E : XE' → Prop} (h : (lift o ρ).run K E) : ∃ v, o = some v ∧ K (v, ρ) := by
  cases o with
  | none => exact h.elim
  | some v => exact ⟨v, rfl, h⟩

def eVar (i : Nat) : GE := fun ρ => match ρ[i]? with
  | some (.fz v) => .ret (v, ρ)
  | _ => .stuck
def eC (v : PV) : GE := fun ρ => .ret (v, ρ)
def eOp1 (f : PV → Option PV) (g : GE) : GE := fun ρ => (g ρ).bind fun a => lift (f a.1) a.2
def eOp2 (f : PV → PV → Option PV) (g h : GE) : GE := fun ρ => (g ρ).bind fun a => (h a.2).bind fun b => lift (f a.1 b.1) b.2
def eAnd (g h : GE) : GE := fun ρ => (g ρ).bind fun a => match a.1 with
  | .bl true => h a.2
  | .bl false => .ret (.bl false, a.2)
  | _ => .stuck
def eOr (g h : GE) : GE := fun ρ => (g ρ).bind fun a => match a.1 with
  | .bl false => h a.2
  | .bl true => .ret (.bl true, a.2)
  | _ => .stuck
def eNot (g : GE) : GE := fun ρ => (g ρ).bind fun a => match a.1 with
  | .bl b => .ret (.bl (!b), a.2)
  | _ => .stuck
def eIf (t : GT) (g h : GE) : GE := fun ρ => (t ρ).bind fun a => if a.1 = true then g a.2 else h a.2
/-- a value's truth -/
def truth : PV → Option Bool
  | .non => some false
  | .bl b => some b
  | .int i => some (i != 0)
  | .str x => if x.length ≤ sizeLine then some ((x.length : Int) != 0) else none
  | .tup xs => some (!xs.isEmpty)
  | .lst _ xs => some (!xs.isEmpty)
  | .dic _ xs => some (!xs.isEmpty)
  | _ => none
def gVal (g : GE) : GT := fun ρ => (g ρ).bind fun a => match truth a.1 with
  | some b => .ret (b, a.2)
  | none => .stuck
/-- a test by a value that is a bool -/
def gBl (g : GE) : GT := fun ρ => (g ρ).bind fun a => match a.1 with
  | .bl b => .ret (b, a.2)
  | _ => .stuck
def gAnd (g h : GT) : GT := fun ρ => (g ρ).bind fun a => if a.1 = true then h a.2 else .ret (false, a.2)
def gOr (g h : GT) : GT := fun ρ => (g ρ).bind fun a => if a.1 = true then .ret (true, a.2) else h a.2
def gNot (g : GT) : GT := fun ρ => (g ρ).bind fun a => .ret (!a.1, a.2)

section
variable {c : Cn} {X : Cx} {W : WX} {e a b : Expr} {rest : List Expr} {pos : Pos} {g h ga gb : GE} {gt gu : GT}

theorem ve_var {i : Nat} (hp : PE X e (tVar i)) : PE X e (tE c W (eVar i)) := imp_PE hp fun σ H Q ⟨ρ, F, er, z⟩ => by
  unfold eVar at z
  split at z
  · rename_i v q
    obtain ⟨w, h1, h2⟩ := er.fz q
    exact ⟨w, h1, z w F H (StpE.refl er) h2⟩
  · exact z.elim
theorem ve_const {v : PV} {w : V} (hp : PE X e (tC w)) (r : ∀ F, Rep c F w v) : PE X e (tE c W (eC v)) := imp_PE hp fun σ H Q ⟨ρ, F, er, z⟩ => z w F H (StpE.refl er) (r F)
theorem ve_int {i j pos} : PE X (.Constant (.int i) j pos) (tE c W (eC (.int i))) := ve_const pe_int fun _ => .int i
theorem ve_bl {i j pos} : PE X (.Constant (.bool i) j pos) (tE c W (eC (.bl i))) := ve_const pe_bl fun _ => .bl i
theorem ve_non {j pos} : PE X (.Constant .none j pos) (tE c W (eC .non)) := ve_const pe_non fun _ => .non
theorem ve_str {x j pos} : PE X (.Constant (.str x) j pos) (tE c W (eC (.str x))) := ve_const pe_str fun _ => .str x
/-- a module's int -/
theorem ve_gint {x : Str} {i : Int} (hg : Gl X x) (hm : ∃ t, X.mg x = some (.int i t)) (hd : (x == ("__debug__" : Str)) = false := by decide) : PE X (.Name x pos) (tE c W (eC (.int i))) := by
  obtain ⟨t, hm⟩ := hm
  exact ve_const (pe_glob hg hm (v := .int i) ⟨t, rfl⟩ hd) fun _ => .int i

def Op1 (c : Cn) (f : PV → Option PV) (r : V → Hp → VK → Prop) : Prop := ∀ (F H : Hp) (x : V) (a v : PV) (Q : VK), Same F H → Rep c F x a → f a = some v →
  (∀ w F' H', Grow F H F' H' → Rep c F' w v → Q w H') → r x H Q
def Op2 (c : Cn) (f : PV → PV → Option PV) (r : R2) : Prop := ∀ (F H : Hp) (x y : V) (a b v : PV) (Q : VK), Same F H → Rep c F x a → Rep c F y b → f a b = some v →
  (∀ w F' H', Grow F H F' H' → Rep c F' w v → Q w H') → r x y H Q
theorem Op1.use {f : PV → Option PV} {r : V → Hp → VK → Prop} (hf : Op1 c f r) {σ : St} {H : Hp} {Q : VK} (z : tE c W (eOp1 f g) σ H Q) : tE c W g σ H fun x H1 => r x H1 Q := by
  obtain ⟨ρ, F, er, z⟩ := z
  refine tE_bind er z fun v ρ1 w F1 H1 st rep h1 => ?_
  obtain ⟨u, e, h1⟩ := lift_run h1
  exact hf F1 H1 w v u Q st.2.sub rep e fun w' F' H' gr r => h1 w' F' H' (st.trans (gr.stpE st.2)) r
theorem Op2.use {f : PV → PV → Option PV} {r : R2} (hf : Op2 c f r) {σ : St} {H : Hp} {Q : VK} (z : tE c W (eOp2 f ga gb) σ H Q) :
    tE c W ga σ H fun x H1 => tE c W gb σ H1 fun y H2 => r x y H2 Q := by
  obtain ⟨ρ, F, er, z⟩ := z
  refine tE_bind er z fun v ρ1 w F1 H1 st rep h1 => ?_
  refine tE_bind st.2 h1 fun u ρ2 y F2 H2 st2 rep2 h2 => ?_
  obtain ⟨q, e, h2⟩ := lift_run h2
  exact hf F2 H2 w y v u q Q st2.2.sub (rep.mono st2.1.ff) rep2 e fun w' F' H' gr r => h2 w' F' H' (st.trans (st2.trans (gr.stpE st2.2))) r

theorem ve_op {op : Operator} {r : R2} {f : PV → PV → Option PV} (ho : OpR X (binaryOp op) r) (hf : Op2 c f r) (ha : PE X a (tE c W ga)) (hb : PE X b (tE c W gb)) : PE X (.BinOp a op b pos) (tE c W (eOp2 f ga gb)) :=
  imp_PE (pe_op ho ha hb) fun _ _ _ z => hf.use z
theorem ve_un {op : UnaryOp} {r : V → Hp → VK → Prop} {f : PV → Option PV} (ho : UnR X (unaryOp op) r) (hf : Op1 c f r) (ha : PE X a (tE c W ga)) : PE X (.UnaryOp op a pos) (tE c W (eOp1 f ga)) :=
  imp_PE (pe_un ho ha) fun _ _ _ z => hf.use z
theorem ve_cmp {op : CmpOp} {r : R2} {f : PV → PV → Option PV} (ho : OpR X (compareOp op) r) (hf : Op2 c f r) (hm : behindInMarks op b = false) (ha : PE X a (tE c W ga)) (hb : PE X b (tE c W gb)) :
    PE X (.Compare a [op] [b] pos) (tE c W (eOp2 f ga gb)) := imp_PE (pe_cmpR ho ha hb hm) fun _ _ _ z => hf.use z

/-! ### tests -/
theorem gBl_use {σ : St} {H : Hp} {Q : Bool → Hp → Prop} (z : tT c W (gBl g) σ H Q) : tE c W g σ H fun x H1 => ∃ k, x = .bl k ∧ Q k H1 := by
  obtain ⟨ρ, F, er, z⟩ := z
  refine tE_bind er z fun v ρ1 w F1 H1 st rep h1 => ?_
  cases v with
  | bl b =>
    cases rep
    exact ⟨b, rfl, h1 F1 H1 st⟩
  | _ => exact h1.elim
theorem vt_cmp {op : CmpOp} {r : R2} {f : PV → PV → Option PV} (ho : OpR X (compareOp op) r) (hf : Op2 c f r) (hm : behindInMarks op b = false) (ha : PE X a (tE c W ga)) (hb : PE X b (tE c W gb)) :
    PT X (.Compare a [op] [b] pos) (tT c W (gBl (eOp2 f ga gb))) := imp_PT (pt_cmpR ho ha hb hm) fun σ H Q z => hf.use (W := W) (Q := fun x H' => ∃ k, x = .bl k ∧ Q k H') (gBl_use z)
theorem truth_ok {F H : Hp} {x : V} {v : PV} {b : Bool} (s : Same F H) (r : Rep c F x v) (e : truth v = some b) : TruV c.K x H b := by
  cases r with
  | non => cases e; rfl
  | bl k => cases e; rfl
  | int i => cases e; rfl
  | str y =>
    have e' : (if y.length ≤ sizeLine then some ((y.length : Int) != 0) else none) = some b := e
    by_cases h : y.length ≤ sizeLine
    · rw [if_pos h] at e'
      cases e'
      exact ⟨h, rfl⟩
    · rw [if_neg h] at e'
      cases e'
  | tup h r => cases e; exact .inr (.inl ⟨_, SqT.of (s _ _ h), by rw [r.isEmpty]⟩)
  | lst h r _ => cases e; exact .inl ⟨_, SqL.of (s _ _ h), by rw [r.isEmpty]⟩
  | dic h r _ =>
    cases e
    refine .inr (.inr ⟨_, s _ _ h, ?_⟩)
    cases r <;> rfl
  | ins h r => cases e
  | scr h => cases e
  | any v => cases e
theorem gVal_use {σ : St} {H : Hp} {Q : Bool → Hp → Prop} (z : tT c W (gVal g) σ H Q) : tE c W g σ H fun x H1 => ∃ k, TruV c.K x H1 k ∧ Q k H1 := by
  obtain ⟨ρ, F, er, z⟩ := z
  refine tE_bind er z fun v ρ1 w F1 H1 st rep h1 => ?_
  dsimp only at h1
  split at h1
  · rename_i k hk
    exact ⟨k, truth_ok st.2.sub rep hk, h1 F1 H1 st⟩
  · exact h1.elim
theorem vt_val (hk : c.K = X.K) (ha : PE X a (tE c W ga)) (he : ∀ whole, isTrue a X.env whole = (do let v ← whole; standAt a.pos; holding [v] (truthy v)) := by intro _; rfl) : PT X a (tT c W (gVal ga)) :=
  imp_PT (pt_truth ha he) fun σ H Q z => by
    have q := gVal_use z
    rw [hk] at q
    exact q
theorem vt_not (h : PT X a (tT c W gt)) : PT X (.UnaryOp .Not a pos) (tT c W (gNot gt)) := imp_PT (pt_not h) fun σ H Q ⟨ρ, F, er, z⟩ => tT_bind er z fun v ρ1 F1 H1 st h1 => h1 F1 H1 st
theorem vw_and1 (ha : PT X a (tT c W gt)) : PW X (.BoolOp .And [a] pos) (tT c W gt) := pw_and1 ha
theorem vw_or1 (ha : PT X a (tT c W gt)) : PW X (.BoolOp .Or [a] pos) (tT c W gt) := pw_or1 ha
theorem vw_and (ha : PT X a (tT c W gt)) (hb : PW X (.BoolOp .And (b :: rest) pos) (tT c W gu)) : PW X (.BoolOp .And (a :: b :: rest) pos) (tT c W (gAnd gt gu)) :=
  imp_PW (pw_and ha hb) fun σ H Q ⟨ρ, F, er, z⟩ => tT_bind er z fun v ρ1 F1 H1 st h1 => by
    cases v with
    | true => exact ⟨ρ1, F1, st.2, (gu ρ1).mono (fun r q => OkT.step st q) (fun _ q => q) h1⟩
    | false => exact h1 F1 H1 st
theorem vw_or (ha : PT X a (tT c W gt)) (hb : PW X (.BoolOp .Or (b :: rest) pos) (tT c W gu)) : PW X (.BoolOp .Or (a :: b :: rest) pos) (tT c W (gOr gt gu)) :=
  imp_PW (pw_or ha hb) fun σ H Q ⟨ρ, F, er, z⟩ => tT_bind er z fun v ρ1 F1 H1 st h1 => by
    cases v with
    | false => exact ⟨ρ1, F1, st.2, (gu ρ1).mono (fun r q => OkT.step st q) (fun _ q => q) h1⟩
    | true => exact h1 F1 H1 st

/-! ### and, or, not, if as values -/
theorem ve_one {op} (h : PE X a (tE c W g)) : PE X (.BoolOp op [a] pos) (tE c W g) := pe_one h
theorem ve_and (ha : PE X a (tE c W ga)) (hb : PE X (.BoolOp .And (b :: rest) pos) (tE c W gb)) : PE X (.BoolOp .And (a :: b :: rest) pos) (tE c W (eAnd ga gb)) :=
  imp_PE (pe_and ha hb) fun σ H Q ⟨ρ, F, er, z⟩ => tE_bind er z fun v ρ1 w F1 H1 st rep h1 => by
    cases v with
    | bl k =>
      cases rep
      refine ⟨k, rfl, ?_⟩
      cases k with
      | true => exact ⟨ρ1, F1, st.2, (gb ρ1).mono (fun r q => OkE.step st q) (fun _ q => q) h1⟩
      | false => exact h1 _ F1 H1 st (.bl false)
    | _ => exact h1.elim
theorem ve_or (ha : PE X a (tE c W ga)) (hb : PE X (.BoolOp .Or (b :: rest) pos) (tE c W gb)) : PE X (.BoolOp .Or (a :: b :: rest) pos) (tE c W (eOr ga gb)) :=
  imp_PE (pe_or ha hb) fun σ H Q ⟨ρ, F, er, z⟩ => tE_bind er z fun v ρ1 w F1 H1 st rep h1 => by
    cases v with
    | bl k =>
      cases rep
      refine ⟨k, rfl, ?_⟩
      cases k with
      | false => exact ⟨ρ1, F1, st.2, (gb ρ1).mono (fun r q => OkE.step st q) (fun _ q => q) h1⟩
      | true => exact h1 _ F1 H1 st (.bl true)
    | _ => exact h1.elim
theorem ve_not (ha : PE X a (tE c W ga)) : PE X (.UnaryOp .Not a pos) (tE c W (eNot ga)) :=
  imp_PE (pe_not ha) fun σ H Q ⟨ρ, F, er, z⟩ => tE_bind er z fun v ρ1 w F1 H1 st rep h1 => by
    cases v with
    | bl k =>
      cases rep
      exact ⟨k, rfl, h1 _ F1 H1 st (.bl _)⟩
    | _ => exact h1.elim
theorem ve_if {t : Expr} (ht : PT X t (tT c W gt)) (ha : PE X a (tE c W ga)) (hb : PE X b (tE c W gb)) : PE X (.IfExp t a b pos) (tE c W (eIf gt ga gb)) :=
  imp_PE (pe_ifExp ht ha hb) fun σ H Q ⟨ρ, F, er, z⟩ => tT_bind er z fun v ρ1 F1 H1 st h1 => by
    cases v with
    | true => exact ⟨ρ1, F1, st.2, (ga ρ1).mono (fun r q => OkE.step st q) (fun _ q => q) h1⟩
    | false => exact ⟨ρ1, F1, st.2, (gb ρ1).mono (fun r q => OkE.step st q) (fun _ q => q) h1⟩

/-! ### argument lists -/
abbrev GA := Env' → Wp XE' (List PV × Env')
def aNil : GA := fun ρ => .ret ([], ρ)
def aCons (g : GE) (h : GA) : GA := fun ρ => (g ρ).bind fun a => (h a.2).bind fun b => .ret (a.1 :: b.1, b.2)
def OkA (c : Cn) (n : Nat) (σ : St) (ρ : Env') (F H : Hp) (Q : List V → Hp → Prop) : List PV × Env' → Prop := fun r => ∀ ws F' H', StpE c σ ρ F H r.2 F' H' → Reps c F' ws r.1 → ws.length = n → Q ws H'
/-- n values, from the left -/
def tA (c : Cn) (W : WX) (n : Nat) (g : GA) : TA := fun σ H Q => ∃ ρ F, ER c F H σ ρ ∧ (g ρ).run (OkA c n σ ρ F H Q) (ErE c W σ ρ F H)
theorem tA_bind {α : Type} {n : Nat} {σ : St} {ρ : Env'} {F H : Hp} {g : GA} {k : List PV × Env' → Wp XE' α} {R : List V → Hp → Prop} {Z : α → Prop} (er : ER c F H σ ρ) (h : ((g ρ).bind k).run Z (ErE c W σ ρ F H))
    (hk : ∀ v ρ1 w F1 H1, StpE c σ ρ F H ρ1 F1 H1 → Reps c F1 w v → w.length = n → (k (v, ρ1)).run Z (ErE c W σ ρ1 F1 H1) → R w H1) : tA c W n g σ H R :=
  ⟨ρ, F, er, (g ρ).mono (fun r h1 w F1 H1 st rep hl => hk r.1 r.2 w F1 H1 st rep hl ((k r).mono (fun _ z => z) (fun _ => ErE.step st) h1)) (fun _ z => z) h⟩
theorem va_nil : PA X [] (tA c W 0 aNil) := imp_PA pa_nil fun σ H Q ⟨ρ, F, er, z⟩ => z [] F H (StpE.refl er) .nil rfl
theorem va_cons {es : List Expr} {n : Nat} {gr : GA} (ha : PE X a (tE c W ga)) (hr : PA X es (tA c W n gr)) (hs : starEach (a :: es) X.env = (false, eval a X.env) :: starEach es X.env := by rfl) : PA X (a :: es) (tA c W (n + 1) (aCons ga gr)) :=
  imp_PA (pa_cons ha hr hs) fun σ H Q ⟨ρ, F, er, z⟩ => tE_bind er z fun v ρ1 w F1 H1 st rep h1 =>
    tA_bind st.2 h1 fun u ρ2 y F2 H2 st2 rep2 hl h2 => h2 (w :: y) F2 H2 (st.trans st2) (.cons (rep.mono st2.1.ff) rep2) (by rw [List.length_cons, hl])

/-! ### displays: a new object -/
def eTup (g : GA) : GE := fun ρ => (g ρ).bind fun a => if a.1.length ≤ sizeLine then .ret (.tup a.1, a.2) else .stuck
theorem ve_tup {es : List Expr} {gr : GA} {k n : Nat} (h : PA X es (tA c W n gr)) : PE X (.Tuple es k pos) (tE c W (eTup gr)) :=
  imp_PE (pe_tup h) fun σ H Q ⟨ρ, F, er, z⟩ => tA_bind er z fun v ρ1 w F1 H1 st rep hl h1 => by
    by_cases hz : v.length ≤ sizeLine
    · dsimp only at h1
      rw [if_pos hz] at h1
      refine ⟨by rw [rep.length]; exact hz, fun p hp => ?_⟩
      have gr := upd_grow (o := .tup w) st.2.sub hp
      exact h1 _ _ _ (st.trans (gr.stpE st.2)) (.tup upd_same (rep.mono gr.ff))
    · dsimp only at h1
      rw [if_neg hz] at h1
      exact h1.elim
/-- a new list as a program: its items -/
abbrev GL := Env' → Wp XE' (List PV × Env')
/-- .. the list is new and nobody's -/
def OkL (c : Cn) (σ : St) (ρ : Env') (F H : Hp) (Q : VK) : List PV × Env' → Prop := fun r => ∀ p vs F' H', StpE c σ ρ F H r.2 F' H' → H p = none → F' p = none → H' p = some (.lst vs) → ¬ Own σ r.2 p → Reps c F' vs r.1 → Q (.ref p) H'
def tL (c : Cn) (W : WX) (g : GL) : TE := fun σ H Q => ∃ ρ F, ER c F H σ ρ ∧ (g ρ).run (OkL c σ ρ F H Q) (ErE c W σ ρ F H)
def eLst (g : GL) : GE := fun ρ => (g ρ).bind fun a => .ret (.lst none a.1, a.2)
/-- a list that is nobody's is frozen -/
theorem freeze_grow {F H : Hp} {p : Addr} {o : HO} (s : Same F H) (hF : F p = none) (hH : H p = some o) : Same F (upd F p o) ∧ Same (upd F p o) H := by
  refine ⟨fun b u h => ?_, fun b u h => ?_⟩
  · rw [upd_ne (ne_of_none h hF)]; exact h
  · by_cases hb : b = p
    · subst hb; rw [upd_same] at h; rw [hH]; exact h
    · rw [upd_ne hb] at h; exact s _ _ h
theorem freeze_slot {F H : Hp} {p : Addr} {ob : HO} {o : Option V} {s : SV} (hF : F p = none) (n : ∀ q, o = some (.ref q) → s.own = true → q ≠ p) (h : SlotR c F H o s) : SlotR c (upd F p ob) H o s := by
  have ff : Same F (upd F p ob) := fun b u h => by rw [upd_ne (ne_of_none h hF)]; exact h
  cases s with
  | un => trivial
  | fz v => obtain ⟨w, e, r⟩ := h; exact ⟨w, e, r.mono ff⟩
  | ow xs => obtain ⟨q, vs, e, f, h, r⟩ := h; exact ⟨q, vs, e, by rw [upd_ne (n q e rfl)]; exact f, h, r.mono ff⟩
  | bx k => obtain ⟨q, vs, e, f, h, r⟩ := h; exact ⟨q, vs, e, by rw [upd_ne (n q e rfl)]; exact f, h, r⟩
theorem freeze_er {F H : Hp} {σ : St} {ρ : Env'} {p : Addr} {ob : HO} (er : ER c F H σ ρ) (hF : F p = none) (hH : H p = some ob) (n : ¬ Own σ ρ p) : ER c (upd F p ob) H σ ρ :=
  ⟨(freeze_grow er.sub hF hH).2, er.len, fun i o s h1 h2 => freeze_slot hF (fun q e1 e2 e3 => n (by subst e3; exact ⟨i, s, by rw [h1, e1], h2, e2⟩)) (er.slot i o s h1 h2), er.dis, er.mrk⟩
theorem ve_lst {gl : GL} (h : PE X e (tL c W gl)) : PE X e (tE c W (eLst gl)) := imp_PE h fun σ H Q ⟨ρ, F, er, z⟩ =>
  ⟨ρ, F, er, (gl ρ).mono (fun r (q : OkE c σ ρ F H Q (.lst none r.1, r.2)) p vs F' H' st hn hF hH no rep => by
    have f := freeze_grow st.2.sub hF hH
    refine q (.ref p) (upd F' p (.lst vs)) H' ⟨⟨st.1.ff.trans f.1, fun b o h n => ?_, st.1.th, st.1.ow⟩, freeze_er st.2 hF hH no⟩ (.lst upd_same (rep.mono f.1) (fun _ z => nomatch z))
    obtain ⟨h1, h2⟩ := st.1.hh b o h n
    exact ⟨h1, fun z => by rw [upd_ne (ne_of_none h hn)]; exact h2 z⟩) (fun _ q => q) z⟩
def lDisp (g : GA) : GL := fun ρ => (g ρ).bind fun a => if a.1.length ≤ sizeLine then .ret a else .stuck
theorem not_own_new {F H : Hp} {σ : St} {ρ : Env'} {p : Addr} (er : ER c F H σ ρ) (h : H p = none) : ¬ Own σ ρ p := fun o => by
  obtain ⟨_, vs, q⟩ := Own.tracked er o
  rw [h] at q
  cases q
/-- a new list laid at p, from a state behind -/
theorem laidL {σ : St} {ρ ρ1 : Env'} {F H F1 H1 : Hp} {Q : VK} {p : Addr} {ws : List V} {v : List PV} (st : StpE c σ ρ F H ρ1 F1 H1) (q : OkL c σ ρ F H Q (v, ρ1)) (hp : H1 p = none) (r : Reps c F1 ws v) : Q (.ref p) (upd H1 p (.lst ws)) := by
  have gr := upd_growH (o := .lst ws) st.2.sub hp
  refine q p ws F1 _ (st.trans (gr.stpE st.2)) ?_ ?_ upd_same (not_own_new st.2 hp) r
  · cases e : H p with
    | none => rfl
    | some o => obtain ⟨o', e'⟩ := st.1.th p o e; rw [hp] at e'; cases e'
  · exact st.2.sub.free hp
theorem vl_disp {es : List Expr} {n : Nat} {gr : GA} (h : PA X es (tA c W n gr)) : PE X (.List es pos) (tL c W (lDisp gr)) :=
  imp_PE (pe_lst h) fun σ H Q ⟨ρ, F, er, z⟩ => tA_bind er z fun v ρ1 w F1 H1 st rep hl h1 => by
    by_cases hz : v.length ≤ sizeLine
    · dsimp only at h1
      rw [if_pos hz] at h1
      exact ⟨by rw [rep.length]; exact hz, fun p hp => laidL st h1 hp rep⟩
    · dsimp only at h1
      rw [if_neg hz] at h1
      exact h1.elim
/-- lists by operators on two values, one value -/
def lift' (o : Option (List PV)) (ρ : Env') : Wp XE' (List PV × Env') := match o with
  | some v => .ret (v, ρ)
  | none => .stuck
@[simp] theorem lift'_some (v : List PV) (ρ : Env') : lift' (some v) ρ = .ret (v, ρ) := (rfl)
theorem lift'_run {o : Option (List PV)} {ρ : Env'} {K : List PV × Env' → Prop} {E : XE' → Prop} (h : (lift' o ρ).run K E) : ∃ v, o = some v ∧ K (v, ρ) := by
  cases o with
  | none => exact h.elim
  | some v => exact ⟨v, rfl, h⟩
def lOp1 (f : PV → Option (List PV)) (g : GE) : GL := fun ρ => (g ρ).bind fun a => lift' (f a.1) a.2
def lOp2 (f : PV → PV → Option (List PV)) (g h : GE) : GL := fun ρ => (g ρ).bind fun a => (h a.2).bind fun b => lift' (f a.1 b.1) b.2
def Ol1 (c : Cn) (f : PV → Option (List PV)) (r : V → Hp → VK → Prop) : Prop := ∀ (F H : Hp) (x : V) (a : PV) (v : List PV) (Q : VK), Same F H → Rep c F x a → f a = some v →
  (∀ ws, Reps c F ws v → ∀ p, H p = none → Q (.ref p) (upd H p (.lst ws))) → r x H Q
def Ol2 (c : Cn) (f : PV → PV → Option (List PV)) (r : R2) : Prop := ∀ (F H : Hp) (x y : V) (a b : PV) (v : List PV) (Q : VK), Same F H → Rep c F x a → Rep c F y b → f a b = some v →
  (∀ ws, Reps c F ws v → ∀ p, H p = none → Q (.ref p) (upd H p (.lst ws))) → r x y H Q
theorem Ol1.use {f : PV → Option (List PV)} {r : V → Hp → VK → Prop} (hf : Ol1 c f r) {σ : St} {H : Hp} {Q : VK} (z : tL c W (lOp1 f g) σ H Q) : tE c W g σ H fun x H1 => r x H1 Q := by
  obtain ⟨ρ, F, er, z⟩ := z
  refine tE_bind er z fun v ρ1 w F1 H1 st rep h1 => ?_
  obtain ⟨u, e, h1⟩ := lift'_run h1
  exact hf F1 H1 w v u Q st.2.sub rep e fun ws r p hp => laidL st h1 hp r
theorem Ol2.use {f : PV → PV → Option (List PV)} {r : R2} (hf : Ol2 c f r) {σ : St} {H : Hp} {Q : VK} (z : tL c W (lOp2 f ga gb) σ H Q) :
    tE c W ga σ H fun x H1 => tE c W gb σ H1 fun y H2 => r x y H2 Q := by
  obtain ⟨ρ, F, er, z⟩ := z
  refine tE_bind er z fun v ρ1 w F1 H1 st rep h1 => ?_
  refine tE_bind st.2 h1 fun u ρ2 y F2 H2 st2 rep2 h2 => ?_
  obtain ⟨q, e, h2⟩ := lift'_run h2
  exact hf F2 H2 w y v u q Q st2.2.sub (rep.mono st2.1.ff) rep2 e fun ws r p hp => laidL (st.trans st2) h2 hp r
theorem vl_op {op : Operator} {r : R2} {f : PV → PV → Option (List PV)} (ho : OpR X (binaryOp op) r) (hf : Ol2 c f r) (ha : PE X a (tE c W ga)) (hb : PE X b (tE c W gb)) : PE X (.BinOp a op b pos) (tL c W (lOp2 f ga gb)) :=
  imp_PE (pe_op ho ha hb) fun _ _ _ z => hf.use z

/-! ### built-ins by name -/
section
variable {x : Str} {p : Pos} {id T : String} {r : List V → Hp → VK → Prop}
theorem ve_callB {f : PV → Option PV} (hc : CallR X (.builtin id) r) (hf : Op1 c f fun x => r [x]) (hg : Gl X x) (hm : X.mg x = none) (hv : bootBuiltins x = some (.builtin id)) (ha : PE X a (tE c W ga))
    (hn : x ≠ "__name__" := by decide) (hdb : (x == ("__debug__" : Str)) = false := by decide) (he : starEach [a] X.env = (false, eval a X.env) :: starEach [] X.env := by rfl) : PE X (.Call (.Name x p) [a] [] pos) (tE c W (eOp1 f ga)) :=
  imp_PE (pe_callB hc hg hm hv (pa_cons ha pa_nil he) hn hdb he) fun _ _ _ z => hf.use z
theorem ve_callTy {f : PV → Option PV} (hc : CallR X (.type T) r) (hf : Op1 c f fun x => r [x]) (hg : Gl X x) (hm : X.mg x = none) (hv : bootBuiltins x = some (.type T)) (ha : PE X a (tE c W ga))
    (hn : x ≠ "__name__" := by decide) (hdb : (x == ("__debug__" : Str)) = false := by decide) (he : starEach [a] X.env = (false, eval a X.env) :: starEach [] X.env := by rfl) : PE X (.Call (.Name x p) [a] [] pos) (tE c W (eOp1 f ga)) :=
  imp_PE (pe_callTy hc hg hm hv (pa_cons ha pa_nil he) hn hdb he) fun _ _ _ z => hf.use z
theorem ve_callB2 {f : PV → PV → Option PV} (hc : CallR X (.builtin id) r) (hf : Op2 c f fun x y => r [x, y]) (hg : Gl X x) (hm : X.mg x = none) (hv : bootBuiltins x = some (.builtin id)) (ha : PE X a (tE c W ga)) (hb : PE X b (tE c W gb))
    (hn : x ≠ "__name__" := by decide) (hdb : (x == ("__debug__" : Str)) = false := by decide) (he : starEach [a, b] X.env = (false, eval a X.env) :: starEach [b] X.env := by rfl) (he2 : starEach [b] X.env = (false, eval b X.env) :: starEach [] X.env := by rfl)
    (hpl : (backTo pos (starEach [b] X.env)).any (·.1) = false := by rfl) : PE X (.Call (.Name x p) [a, b] [] pos) (tE c W (eOp2 f ga gb)) :=
  imp_PE (pe_callB hc hg hm hv (pa_cons ha (pa_cons hb pa_nil he2) he) hn hdb he hpl) fun _ _ _ z => hf.use z
theorem vl_callTy {f : PV → Option (List PV)} (hc : CallR X (.type T) r) (hf : Ol1 c f fun x => r [x]) (hg : Gl X x) (hm : X.mg x = none) (hv : bootBuiltins x = some (.type T)) (ha : PE X a (tE c W ga))
    (hn : x ≠ "__name__" := by decide) (hdb : (x == ("__debug__" : Str)) = false := by decide) (he : starEach [a] X.env = (false, eval a X.env) :: starEach [] X.env := by rfl) : PE X (.Call (.Name x p) [a] [] pos) (tL c W (lOp1 f ga)) :=
  imp_PE (pe_callTy hc hg hm hv (pa_cons ha pa_nil he) hn hdb he) fun _ _ _ z => hf.use z
theorem vl_callB {f : PV → Option (List PV)} (hc : CallR X (.builtin id) r) (hf : Ol1 c f fun x => r [x]) (hg : Gl X x) (hm : X.mg x = none) (hv : bootBuiltins x = some (.builtin id)) (ha : PE X a (tE c W ga))
    (hn : x ≠ "__name__" := by decide) (hdb : (x == ("__debug__" : Str)) = false := by decide) (he : starEach [a] X.env = (false, eval a X.env) :: starEach [] X.env := by rfl) : PE X (.Call (.Name x p) [a] [] pos) (tL c W (lOp1 f ga)) :=
  imp_PE (pe_callB hc hg hm hv (pa_cons ha pa_nil he) hn hdb he) fun _ _ _ z => hf.use z
end

/-! ### subscripts -/
theorem ve_ix {r : R2} {f : PV → PV → Option PV} (ho : IxR X r) (hf : Op2 c f r) (ha : PE X a (tE c W ga)) (hb : PE X b (tE c W gb)) (hs : PlainIx b := by intro _ _; rfl) : PE X (.Subscript a b pos) (tE c W (eOp2 f ga gb)) :=
  imp_PE (pe_ix ho ha hb hs) fun _ _ _ z => hf.use z
/-- parts of a slice -/
abbrev GO := Env' → Wp XE' (Option Int × Env')
def oNone : GO := fun ρ => .ret (none, ρ)
def oSome (g : GE) : GO := fun ρ => (g ρ).bind fun a => match a.1 with
  | .int i => .ret (some i, a.2)
  | _ => .stuck
def OkO (c : Cn) (σ : St) (ρ : Env') (F H : Hp) (Q : Option Int → Hp → Prop) : Option Int × Env' → Prop := fun r => ∀ F' H', StpE c σ ρ F H r.2 F' H' → Q r.1 H'
def tO (c : Cn) (W : WX) (g : GO) : TO := fun σ H Q => ∃ ρ F, ER c F H σ ρ ∧ (g ρ).run (OkO c σ ρ F H Q) (ErE c W σ ρ F H)
theorem imp_PO {e : Option Expr} {t t' : TO} (h : PO X e t) (f : ∀ σ H Q, t' σ H Q → t σ H Q) : PO X e t' := ⟨fun pins s σ H Q I hw => h.run pins s σ H Q I (f σ H Q hw)⟩
theorem tO_bind {α : Type} {σ : St} {ρ : Env'} {F H : Hp} {g : GO} {k : Option Int × Env' → Wp XE' α} {R : Option Int → Hp → Prop} {Z : α → Prop} (er : ER c F H σ ρ) (h : ((g ρ).bind k).run Z (ErE c W σ ρ F H))
    (hk : ∀ v ρ1 F1 H1, StpE c σ ρ F H ρ1 F1 H1 → (k (v, ρ1)).run Z (ErE c W σ ρ1 F1 H1) → R v H1) : tO c W g σ H R :=
  ⟨ρ, F, er, (g ρ).mono (fun r h1 F1 H1 st => hk r.1 r.2 F1 H1 st ((k r).mono (fun _ z => z) (fun _ => ErE.step st) h1)) (fun _ z => z) h⟩
theorem vo_none : PO X none (tO c W oNone) := imp_PO po_none fun σ H Q ⟨ρ, F, er, z⟩ => z F H (StpE.refl er)
theorem vo_some (h : PE X a (tE c W ga)) : PO X (some a) (tO c W (oSome ga)) := imp_PO (po_some h) fun σ H Q ⟨ρ, F, er, z⟩ => tE_bind er z fun v ρ1 w F1 H1 st rep h1 => by
  cases v with
  | int i => cases rep; exact ⟨i, rfl, h1 F1 H1 st⟩
  | _ => exact h1.elim
def eSl (f : PV → Option Int → Option Int → Option PV) (g : GE) (l u : GO) : GE := fun ρ => (g ρ).bind fun a => (l a.2).bind fun i => (u i.2).bind fun j => lift (f a.1 i.1 j.1) j.2
def lSl (f : PV → Option Int → Option Int → Option (List PV)) (g : GE) (l u : GO) : GL := fun ρ => (g ρ).bind fun a => (l a.2).bind fun i => (u i.2).bind fun j => lift' (f a.1 i.1 j.1) j.2
def OpS (c : Cn) (f : PV → Option Int → Option Int → Option PV) (r : V → Option Int → Option Int → Hp → VK → Prop) : Prop := ∀ lo hi, Op1 c (fun a => f a lo hi) fun x => r x lo hi
def OlS (c : Cn) (f : PV → Option Int → Option Int → Option (List PV)) (r : V → Option Int → Option Int → Hp → VK → Prop) : Prop := ∀ lo hi, Ol1 c (fun a => f a lo hi) fun x => r x lo hi
theorem ve_slice {f : PV → Option Int → Option Int → Option PV} {r : V → Option Int → Option Int → Hp → VK → Prop} {lo hi : Option Expr} {p2 : Pos} {gl gu : GO} (hr : SlR X r) (hf : OpS c f r) (ha : PE X a (tE c W ga)) (hl : PO X lo (tO c W gl)) (hu : PO X hi (tO c W gu)) :
    PE X (.Subscript a (.Slice lo hi none p2) pos) (tE c W (eSl f ga gl gu)) := imp_PE (pe_slice hr ha hl hu) fun σ H Q ⟨ρ, F, er, z⟩ => by
  refine tE_bind er z fun v ρ1 w F1 H1 st rep h1 => tO_bind st.2 h1 fun i ρ2 F2 H2 st2 h2 => tO_bind st2.2 h2 fun j ρ3 F3 H3 st3 h3 => ?_
  obtain ⟨u, e, h3⟩ := lift_run h3
  exact hf i j F3 H3 w v u Q st3.2.sub (rep.mono (st2.trans st3).1.ff) e fun w' F' H' gr r => h3 w' F' H' (st.trans (st2.trans (st3.trans (gr.stpE st3.2)))) r
theorem vl_slice {f : PV → Option Int → Option Int → Option (List PV)} {r : V → Option Int → Option Int → Hp → VK → Prop} {lo hi : Option Expr} {p2 : Pos} {gl gu : GO} (hr : SlR X r) (hf : OlS c f r) (ha : PE X a (tE c W ga)) (hl : PO X lo (tO c W gl)) (hu : PO X hi (tO c W gu)) :
    PE X (.Subscript a (.Slice lo hi none p2) pos) (tL c W (lSl f ga gl gu)) := imp_PE (pe_slice hr ha hl hu) fun σ H Q ⟨ρ, F, er, z⟩ => by
  refine tE_bind er z fun v ρ1 w F1 H1 st rep h1 => tO_bind st.2 h1 fun i ρ2 F2 H2 st2 h2 => tO_bind st2.2 h2 fun j ρ3 F3 H3 st3 h3 => ?_
  obtain ⟨u, e, h3⟩ := lift'_run h3
  exact hf i j F3 H3 w v u Q st3.2.sub (rep.mono (st2.trans st3).1.ff) e fun ws r p hp => laidL (st.trans (st2.trans st3)) h3 hp r

/-! ### methods of built-in values -/
def MtOk (c : Cn) (T : String) (f : PV → List PV → Option PV) (r : V → List V → Hp → VK → Prop) : Prop := (∀ (F H : Hp) (x : V) (a : PV) , Same F H → Rep c F x a → (∃ xs v, f a xs = some v) → tyV c.K T x H) ∧
  ∀ (F H : Hp) (x : V) (ys : List V) (a v : PV) (xs : List PV) (Q : VK), Same F H → Rep c F x a → Reps c F ys xs → f a xs = some v → (∀ w F' H', Grow F H F' H' → Rep c F' w v → Q w H') → r x ys H Q
end
end VL

set_option Elab.async false
set_option linter.all false
set_option maxRecDepth 100000
set_option maxHeartbeats 1000000
/-! VL, part 3: the operations on trees. -/
namespace VL
open PySem PySem.Spec PyProof.Rows L2

/-! ### arithmetic -/
def pAdd : PV → PV → Option PV
  | .int i, .int j => some (.int (i + j))
  | .str x, .str y => if x.length + y.length ≤ sizeLine then some (.str (x ++ y)) else none
  | .tup xs, .tup ys => if xs.length + ys.length ≤ sizeLine then some (.tup (xs ++ ys)) else none
  | .lst _ xs, .lst _ ys => if xs.length + ys.length ≤ sizeLine then some (.lst none (xs ++ ys)) else none
  | _, _ => none
def pSub : PV → PV → Option PV
  | .int i, .int j => some (.int (i - j))
  | _, _ => none
def pMul : PV → PV → Option PV
  | .int i, .int j => if i.natAbs.log2 + j.natAbs.log2 < 1000000 then some (.int (i * j)) else none
  | .str x, .int k => if 2 ≤ k ∧ k < 1000000 ∧ 0 < x.length ∧ x.length * k.toNat ≤ sizeLine then some (.str ⟨(List.replicate k.toNat x.cps).foldl (· ++ ·) #[]⟩) else none
  | .lst _ xs, .int k => if k < 9223372036854775808 ∧ -9223372036854775808 ≤ k ∧ xs.length * k.toNat ≤ sizeLine then some (.lst none (List.replicate k.toNat xs).flatten) else none
  | _, _ => none
def pFdiv : PV → PV → Option PV
  | .int i, .int j => if 0 < j ∧ j < 1073741824 then some (.int (i / j)) else none
  | _, _ => none
def pMod : PV → PV → Option PV
  | .int i, .int j => if 0 < j then some (.int (i % j)) else none
  | _, _ => none
def pPow : PV → PV → Option PV
  | .int i, .int j => if 0 ≤ j ∧ j ≤ 1000000 ∧ i.natAbs < 2 ^ 64 then some (.int (i ^ j.toNat)) else none
  | _, _ => none
def pNeg : PV → Option PV
  | .int i => some (.int (-i))
  | _ => none
def pLt : PV → PV → Option PV
  | .int i, .int j => some (.bl (decide (i < j)))
  | _, _ => none
def pLe : PV → PV → Option PV
  | .int i, .int j => some (.bl (decide (i ≤ j)))
  | _, _ => none
def pGt : PV → PV → Option PV
  | .int i, .int j => some (.bl (decide (j < i)))
  | _, _ => none
def pGe : PV → PV → Option PV
  | .int i, .int j => some (.bl (decide (j ≤ i)))
  | _, _ => none

section
variable {c : Cn} {X : Cx}
theorem of2I {f : PV → PV → Option PV} {r : R2} (h : ∀ (F H : Hp) (i j : Int) (v : PV) (Q : VK), Same F H → f (.int i) (.int j) = some v → (∀ w F' H', Grow F H F' H' → Rep c F' w v → Q w H') → r (.int i) (.int j) H Q)
    (hn : ∀ a b v, f a b = some v → ∃ i j, a = .int i ∧ b = .int j) : Op2 c f r := fun F H x y a b v Q s ra rb e q => by
  obtain ⟨i, j, rfl, rfl⟩ := hn a b v e
  cases ra
  cases rb
  exact h F H i j v Q s e q
theorem two_int {f : PV → PV → Option PV} (h : ∀ a b, (∀ i j, a = .int i → b = .int j → False) → f a b = none) : ∀ a b v, f a b = some v → ∃ i j, a = .int i ∧ b = .int j := fun a b v e => by
  by_cases q : ∃ i j, a = .int i ∧ b = .int j
  · exact q
  · rw [h a b fun i j e1 e2 => q ⟨i, j, e1, e2⟩] at e
    cases e
theorem o_sub : Op2 c pSub (rI0 fun i j => .int (i - j)) := of2I (fun F H i j v Q s e q => by
  cases e
  exact ⟨i, j, rfl, rfl, q _ F H (Grow.refl s) (.int _)⟩) fun a b v e => by
  unfold pSub at e
  split at e
  · exact ⟨_, _, rfl, rfl⟩
  · cases e
theorem o_fdiv : Op2 c pFdiv (rI CDiv fun i j => .int (i / j)) := of2I (fun F H i j v Q s e q => by
  simp only [pFdiv] at e
  by_cases h : 0 < j ∧ j < 1073741824
  · rw [if_pos h] at e
    cases e
    exact ⟨i, j, rfl, rfl, h, q _ F H (Grow.refl s) (.int _)⟩
  · rw [if_neg h] at e
    cases e) fun a b v e => by
  unfold pFdiv at e
  split at e
  · exact ⟨_, _, rfl, rfl⟩
  · cases e
theorem o_mod : Op2 c pMod (rI (fun _ j => 0 < j) fun i j => .int (i % j)) := of2I (fun F H i j v Q s e q => by
  simp only [pMod] at e
  by_cases h : 0 < j
  · rw [if_pos h] at e
    cases e
    exact ⟨i, j, rfl, rfl, h, q _ F H (Grow.refl s) (.int _)⟩
  · rw [if_neg h] at e
    cases e) fun a b v e => by
  unfold pMod at e
  split at e
  · exact ⟨_, _, rfl, rfl⟩
  · cases e
theorem o_pow : Op2 c pPow (rI CPow fun i j => .int (i ^ j.toNat)) := of2I (fun F H i j v Q s e q => by
  simp only [pPow] at e
  by_cases h : 0 ≤ j ∧ j ≤ 1000000 ∧ i.natAbs < 2 ^ 64
  · rw [if_pos h] at e
    cases e
    exact ⟨i, j, rfl, rfl, h, q _ F H (Grow.refl s) (.int _)⟩
  · rw [if_neg h] at e
    cases e) fun a b v e => by
  unfold pPow at e
  split at e
  · exact ⟨_, _, rfl, rfl⟩
  · cases e
theorem o_lt : Op2 c pLt (rI0 fun i j => .bl (decide (i < j))) := of2I (fun F H i j v Q s e q => by
  cases e
  exact ⟨i, j, rfl, rfl, q _ F H (Grow.refl s) (.bl _)⟩) fun a b v e => by
  unfold pLt at e
  split at e
  · exact ⟨_, _, rfl, rfl⟩
  · cases e
theorem o_le : Op2 c pLe (rI0 fun i j => .bl (decide (i ≤ j))) := of2I (fun F H i j v Q s e q => by
  cases e
  exact ⟨i, j, rfl, rfl, q _ F H (Grow.refl s) (.bl _)⟩) fun a b v e => by
  unfold pLe at e
  split at e
  · exact ⟨_, _, rfl, rfl⟩
  · cases e
theorem o_gt : Op2 c pGt (rI0 fun i j => .bl (decide (j < i))) := of2I (fun F H i j v Q s e q => by
  cases e
  exact ⟨i, j, rfl, rfl, q _ F H (Grow.refl s) (.bl _)⟩) fun a b v e => by
  unfold pGt at e
  split at e
  · exact ⟨_, _, rfl, rfl⟩
  · cases e
theorem o_ge : Op2 c pGe (rI0 fun i j => .bl (decide (j ≤ i))) := of2I (fun F H i j v Q s e q => by
  cases e
  exact ⟨i, j, rfl, rfl, q _ F H (Grow.refl s) (.bl _)⟩) fun a b v e => by
  unfold pGe at e
  split at e
  · exact ⟨_, _, rfl, rfl⟩
  · cases e
theorem o_neg : Op1 c pNeg (rU fun i => .int (-i)) := fun F H x a v Q s ra e q => by
  cases ra with
  | int i => cases e; exact ⟨i, rfl, q _ F H (Grow.refl s) (.int _)⟩
  | _ => cases e

/-- +: ints, texts, tuples, lists -/
def rAdd4 (K : PySem.W.Frag) : R2 := fun x y H Q => (rI0 fun i j => .int (i + j)) x y H Q ∨ ((∃ i j, x = .str i ∧ y = .str j ∧ i.length + j.length ≤ sizeLine ∧ Q (.str (i ++ j)) H) ∨ (rCatA K x y H Q ∨ rCat x y H Q))
theorem op_add4 : OpR X (binaryOp .Add) (rAdd4 X.K) := op_add.or (op_add_str.or (op_catA.or op_cat))
theorem o_add (hk : c.K = X.K) : Op2 c pAdd (rAdd4 X.K) := fun F H x y a b v Q s ra rb e q => by
  cases ra with
  | int i =>
    cases rb with
    | int j => cases e; exact .inl ⟨i, j, rfl, rfl, q _ F H (Grow.refl s) (.int _)⟩
    | _ => cases e
  | str i =>
    cases rb with
    | str j =>
      have e' : (if i.length + j.length ≤ sizeLine then some (PV.str (i ++ j)) else none) = some v := e
      by_cases h : i.length + j.length ≤ sizeLine
      · rw [if_pos h] at e'
        cases e'
        exact .inr (.inl ⟨i, j, rfl, rfl, h, q _ F H (Grow.refl s) (.str _)⟩)
      · rw [if_neg h] at e'
        cases e'
    | _ => cases e
  | @tup a1 vs xs h1 r1 =>
    cases rb with
    | @tup a2 ws ys h2 r2 =>
      have e' : (if xs.length + ys.length ≤ sizeLine then some (PV.tup (xs ++ ys)) else none) = some v := e
      by_cases h : xs.length + ys.length ≤ sizeLine
      · rw [if_pos h] at e'
        cases e'
        refine .inr (.inr (.inl ⟨a1, a2, vs, ws, rfl, rfl, SqT.of (s _ _ h1), SqT.of (s _ _ h2), by rw [r1.length, r2.length]; exact h, fun z => ?_, fun _ z => ?_, fun _ _ p hp => ?_⟩))
        · subst z
          cases r1
          exact q _ F H (Grow.refl s) (.tup h2 r2)
        · subst z
          cases r2
          exact q _ F H (Grow.refl s) (by rw [List.append_nil]; exact .tup h1 r1)
        · have gr := upd_grow (o := .tup (vs ++ ws)) s hp
          exact q _ _ _ gr (.tup upd_same ((r1.append r2).mono gr.ff))
      · rw [if_neg h] at e'
        cases e'
    | _ => cases e
  | @lst a1 vs g1 xs h1 r1 t1 =>
    cases rb with
    | @lst a2 ws g2 ys h2 r2 t2 =>
      have e' : (if xs.length + ys.length ≤ sizeLine then some (PV.lst none (xs ++ ys)) else none) = some v := e
      by_cases h : xs.length + ys.length ≤ sizeLine
      · rw [if_pos h] at e'
        cases e'
        refine .inr (.inr (.inr ⟨a1, a2, vs, ws, rfl, rfl, s _ _ h1, s _ _ h2, by rw [r1.length, r2.length]; exact h, fun p hp => ?_⟩))
        have gr := upd_grow (o := .lst (vs ++ ws)) s hp
        exact q _ _ _ gr (.lst upd_same ((r1.append r2).mono gr.ff) fun _ z => nomatch z)
      · rw [if_neg h] at e'
        cases e'
    | _ => cases e
  | _ => cases rb <;> cases e
/-- *: ints, a list times an int -/
theorem foldl_app_size (a : Array Nat) : ∀ (k : Nat) (b : Array Nat), ((List.replicate k a).foldl (· ++ ·) b).size = b.size + a.size * k
  | 0, b => by simp
  | k + 1, b => by rw [List.replicate_succ, List.foldl_cons, foldl_app_size a k, Array.size_append, Nat.mul_succ]; omega
theorem strRep_len (a : Str) (k : Nat) : (Str.mk ((List.replicate k a.cps).foldl (· ++ ·) #[])).length = a.length * k := by
  show ((List.replicate k a.cps).foldl (· ++ ·) #[]).size = a.cps.size * k
  rw [foldl_app_size]
  simp
def rMulS : R2 := fun x y H Q => ∃ (a : Str) (k : Int), x = .str a ∧ y = .int k ∧ 2 ≤ k ∧ k < 1000000 ∧ 0 < a.length ∧ a.length * k.toNat ≤ sizeLine ∧ Q (.str ⟨(List.replicate k.toNat a.cps).foldl (· ++ ·) #[]⟩) H
def rMul2 : R2 := fun x y H Q => ((rI CMulW fun i j => .int (i * j)) x y H Q ∨ rRep x y H Q) ∨ rMulS x y H Q
theorem op_mulS : OpR X (binaryOp .Mult) rMulS := fun pins s σ H x y u v Q I r1 r2 h => by
  obtain ⟨a, k, rfl, rfl, h1, h2, h3, h4, q⟩ := h
  obtain ⟨t, rfl⟩ := r1
  obtain ⟨t2, rfl⟩ := r2
  have e1 : ¬ k < 1 := by omega
  have e2 : (k == 1 || a.length == 0) = false := by
    rw [Bool.or_eq_false_iff]
    exact ⟨by simp; omega, by simp; omega⟩
  have hk : 1 ≤ k.toNat := by omega
  have hz : a.length ≤ sizeLine := Nat.le_trans (Nat.le_mul_of_pos_right _ hk) h4
  refine P.mul_str (by simp; omega) (fun _ _ z => ?_) (fun _ _ => ?_) ?_
  · rw [sizeLine_eq] at hz
    have hd : (9223372036854775807 : Int) / 1000000 ≤ (2 ^ 63 - 1) / k := by
      refine Int.le_ediv_of_mul_le (by omega) ?_
      have : (9223372036854775807 : Int) / 1000000 * k ≤ 9223372036854775807 / 1000000 * 1000000 := Int.mul_le_mul_of_nonneg_left (by omega) (by decide)
      omega
    omega
  · unfold Builtin.Str.tooLong
    exact decide_eq_false (by omega)
  · rw [if_neg e1, if_neg (by rw [e2]; exact Bool.false_ne_true)]
    exact ⟨by rw [strRep_len]; exact h4, .str _, H, I.tok _, ⟨_, rfl⟩, q⟩
theorem op_mul2 : OpR X (binaryOp .Mult) rMul2 := (op_mulW.or op_rep).or op_mulS
theorem Reps.rep {F : Hp} {vs : List V} {xs : List PV} (r : Reps c F vs xs) : ∀ k : Nat, Reps c F (List.replicate k vs).flatten (List.replicate k xs).flatten
  | 0 => .nil
  | k + 1 => by
    rw [List.replicate_succ, List.replicate_succ, List.flatten_cons, List.flatten_cons]
    exact r.append (Reps.rep r k)
theorem o_mul : Op2 c pMul rMul2 := fun F H x y a b v Q s ra rb e q => by
  cases ra with
  | int i =>
    cases rb with
    | int j =>
      have e' : (if i.natAbs.log2 + j.natAbs.log2 < 1000000 then some (PV.int (i * j)) else none) = some v := e
      by_cases h : i.natAbs.log2 + j.natAbs.log2 < 1000000
      · rw [if_pos h] at e'
        cases e'
        exact .inl (.inl ⟨i, j, rfl, rfl, h, q _ F H (Grow.refl s) (.int _)⟩)
      · rw [if_neg h] at e'
        cases e'
    | _ => cases e
  | str x =>
    cases rb with
    | int k =>
      have e' : (if 2 ≤ k ∧ k < 1000000 ∧ 0 < x.length ∧ x.length * k.toNat ≤ sizeLine then some (PV.str ⟨(List.replicate k.toNat x.cps).foldl (· ++ ·) #[]⟩) else none) = some v := e
      by_cases h : 2 ≤ k ∧ k < 1000000 ∧ 0 < x.length ∧ x.length * k.toNat ≤ sizeLine
      · rw [if_pos h] at e'
        cases e'
        exact .inr ⟨x, k, rfl, rfl, h.1, h.2.1, h.2.2.1, h.2.2.2, q _ F H (Grow.refl s) (.str _)⟩
      · rw [if_neg h] at e'
        cases e'
    | _ => cases e
  | @lst a1 vs g1 xs h1 r1 t1 =>
    cases rb with
    | int k =>
      have e' : (if k < 9223372036854775808 ∧ -9223372036854775808 ≤ k ∧ xs.length * k.toNat ≤ sizeLine then some (PV.lst none (List.replicate k.toNat xs).flatten) else none) = some v := e
      by_cases h : k < 9223372036854775808 ∧ -9223372036854775808 ≤ k ∧ xs.length * k.toNat ≤ sizeLine
      · rw [if_pos h] at e'
        cases e'
        refine .inl (.inr ⟨a1, k, vs, rfl, rfl, s _ _ h1, by have := h.2.1; omega, by have := h.1; omega, by rw [r1.length]; exact h.2.2, fun p hp => ?_⟩)
        have gr := upd_grow (o := .lst (List.replicate k.toNat vs).flatten) s hp
        exact q _ _ _ gr (.lst upd_same ((r1.rep k.toNat).mono gr.ff) fun _ z => nomatch z)
      · rw [if_neg h] at e'
        cases e'
    | _ => cases e
  | _ => cases rb <;> cases e
end

/-! ### equality -/
mutual
def pvD : PV → Option PyData
  | .non => some .none
  | .bl b => some (.bool b)
  | .int i => some (.int i)
  | .str x => some (.str x)
  | .tup xs => (pvDs xs).map .tuple
  | .lst _ xs => (pvDs xs).map .list
  | .dic _ _ => none
  | .ins _ _ => none
  | .scr _ => none
  | .any => none
def pvDs : List PV → Option (List PyData)
  | [] => some []
  | x :: xs => (pvD x).bind fun d => (pvDs xs).map fun ds => d :: ds
end
def eqD (a b : PV) : Option Bool := match pvD a, pvD b with
  | some d, some e => if SeqAt.shaped d = true ∧ SeqAt.shaped e = true then some (PyData.eqv d e) else none
  | _, _ => none
def eqB : PV → PV → Option Bool
  | .non, .non => some true
  | .bl i, .bl j => some (decide (i = j))
  | .int i, .int j => some (decide (i = j))
  | .str i, .str j => some (decide (i = j))
  | .non, .int _ => some false
  | .int _, .non => some false
  | .non, .str _ => some false
  | .str _, .non => some false
  | .non, .bl _ => some false
  | .bl _, .non => some false
  | .int _, .str _ => some false
  | .str _, .int _ => some false
  | .bl _, .str _ => some false
  | .str _, .bl _ => some false
  | a, b => eqD a b
def pEq (a b : PV) : Option PV := (eqB a b).map .bl
def pNe (a b : PV) : Option PV := (eqB a b).map fun k => .bl (!k)
def rEq2 (K : PySem.W.Frag) : R2 := fun x y H Q => rEq x y H Q ∨ rEqD K x y H Q
def rNe2 (K : PySem.W.Frag) : R2 := fun x y H Q => rNe x y H Q ∨ rNeD K x y H Q
section
variable {c : Cn} {X : Cx}
mutual
theorem pvD_ok {F : Hp} : ∀ {w : V} {v : PV} {d : PyData}, Rep c F w v → pvD v = some d → Dp c.K F w d
  | _, _, _, .non, e => by simp only [pvD] at e; cases e; exact .non
  | _, _, _, .bl b, e => by simp only [pvD] at e; cases e; exact .bl b
  | _, _, _, .int i, e => by simp only [pvD] at e; cases e; exact .int i
  | _, _, _, .str x, e => by simp only [pvD] at e; cases e; exact .str x
  | _, _, _, .tup h r, e => by
    simp only [pvD] at e
    obtain ⟨ds, e1, rfl⟩ := Option.map_eq_some_iff.mp e
    exact .tup (SqT.of h) (pvDs_ok r e1)
  | _, _, _, .lst h r _, e => by
    simp only [pvD] at e
    obtain ⟨ds, e1, rfl⟩ := Option.map_eq_some_iff.mp e
    exact .lst (SqL.of h) (pvDs_ok r e1)
  | _, _, _, .dic _ _ _, e => by simp only [pvD] at e; cases e
  | _, _, _, .ins _ _, e => by simp only [pvD] at e; cases e
  | _, _, _, .scr _, e => by simp only [pvD] at e; cases e
  | _, _, _, .any _, e => by simp only [pvD] at e; cases e
theorem pvDs_ok {F : Hp} : ∀ {ws : List V} {vs : List PV} {ds : List PyData}, Reps c F ws vs → pvDs vs = some ds → DpAll c.K F ws ds
  | _, _, _, .nil, e => by simp only [pvDs] at e; cases e; exact .nil
  | _, _, _, .cons h r, e => by
    simp only [pvDs] at e
    obtain ⟨d, e1, e2⟩ := Option.bind_eq_some_iff.mp e
    obtain ⟨ds, e3, rfl⟩ := Option.map_eq_some_iff.mp e2
    exact .cons (pvD_ok h e1) (pvDs_ok r e3)
end
theorem eqB_ok {F H : Hp} {x y : V} {a b : PV} {k : Bool} (s : Same F H) (ra : Rep c F x a) (rb : Rep c F y b) (e : eqB a b = some k) :
    (scal x y = true ∧ decide (x = y) = k) ∨ ∃ d d', Dp c.K H x d ∧ Dp c.K H y d' ∧ SeqAt.shaped d = true ∧ SeqAt.shaped d' = true ∧ PyData.eqv d d' = k := by
  have go : eqD a b = some k → (scal x y = true ∧ decide (x = y) = k) ∨ ∃ d d', Dp c.K H x d ∧ Dp c.K H y d' ∧ SeqAt.shaped d = true ∧ SeqAt.shaped d' = true ∧ PyData.eqv d d' = k := fun e => by
    unfold eqD at e
    split at e
    · rename_i d d' h1 h2
      split at e
      · rename_i hs
        cases e
        exact .inr ⟨d, d', pvD_ok (ra.mono s) h1, pvD_ok (rb.mono s) h2, hs.1, hs.2, rfl⟩
      · cases e
    · cases e
  cases ra <;> cases rb <;> first
    | exact go e
    | (refine .inl ⟨rfl, ?_⟩; cases e; simp)
theorem o_eq (hk : c.K = X.K) : Op2 c pEq (rEq2 X.K) := fun F H x y a b v Q s ra rb e q => by
  obtain ⟨k, e1, rfl⟩ := Option.map_eq_some_iff.mp e
  have z := q _ F H (Grow.refl s) (.bl k)
  rw [← hk]
  rcases eqB_ok s ra rb e1 with ⟨h1, h2⟩ | ⟨d, d', h1, h2, h3, h4, h5⟩
  · exact .inl ⟨h1, by rw [h2]; exact z⟩
  · exact .inr ⟨d, d', h1, h2, h3, h4, by rw [h5]; exact z⟩
theorem o_ne (hk : c.K = X.K) : Op2 c pNe (rNe2 X.K) := fun F H x y a b v Q s ra rb e q => by
  obtain ⟨k, e1, rfl⟩ := Option.map_eq_some_iff.mp e
  have z := q _ F H (Grow.refl s) (.bl (!k))
  rw [← hk]
  rcases eqB_ok s ra rb e1 with ⟨h1, h2⟩ | ⟨d, d', h1, h2, h3, h4, h5⟩
  · exact .inl ⟨h1, by rw [h2]; exact z⟩
  · exact .inr ⟨d, d', h1, h2, h3, h4, by rw [h5]; exact z⟩
theorem op_eq2 (hu : X.A.units + 64 < cLine) : OpR X (compareOp .Eq) (rEq2 X.K) := op_eq.or (op_eqD hu)
theorem op_ne2 (hu : X.A.units + 64 < cLine) : OpR X (compareOp .NotEq) (rNe2 X.K) := op_ne.or (op_neD hu)
end

/-! ### is -/
def pIs : PV → PV → Option PV
  | .any, _ => none
  | a, .non => some (.bl (match a with | .non => true | _ => false))
  | .bl i, .bl j => some (.bl (decide (i = j)))
  | _, _ => none
def pIsNot : PV → PV → Option PV
  | .any, _ => none
  | a, .non => some (.bl (match a with | .non => false | _ => true))
  | .bl i, .bl j => some (.bl (!decide (i = j)))
  | _, _ => none
section
variable {c : Cn} {X : Cx}
def rIs2 : R2 := fun x y H Q => (y = .non ∧ Q (.bl (decide (x = .non))) H) ∨ rIsB x y H Q
def rIsNot2 : R2 := fun x y H Q => (y = .non ∧ Q (.bl (!decide (x = .non))) H) ∨ rNotB x y H Q
theorem op_is2 : OpR X (compareOp .Is) rIs2 := op_isN.or op_isBl
theorem op_isNot2 : OpR X (compareOp .IsNot) rIsNot2 := op_notN.or op_notBl
theorem o_is : Op2 c pIs rIs2 := fun F H x y a b v Q s ra rb e q => by
  cases rb with
  | non =>
    refine .inl ⟨rfl, ?_⟩
    cases ra <;> first | (cases e; exact q _ F H (Grow.refl s) (.bl _)) | cases e
  | bl j =>
    cases ra with
    | bl i => cases e; exact .inr ⟨i, j, rfl, rfl, q _ F H (Grow.refl s) (.bl _)⟩
    | _ => cases e
  | _ => cases ra <;> cases e
theorem o_isNot : Op2 c pIsNot rIsNot2 := fun F H x y a b v Q s ra rb e q => by
  cases rb with
  | non =>
    refine .inl ⟨rfl, ?_⟩
    cases ra <;> first | (cases e; exact q _ F H (Grow.refl s) (.bl _)) | cases e
  | bl j =>
    cases ra with
    | bl i => cases e; exact .inr ⟨i, j, rfl, rfl, q _ F H (Grow.refl s) (.bl _)⟩
    | _ => cases e
  | _ => cases ra <;> cases e
end

/-! ### len, abs, int, max, min, sum, all, any, tuple, list, str -/
def pLen : PV → Option PV
  | .str x => if x.length ≤ sizeLine then some (.int x.length) else none
  | .tup xs => some (.int xs.length)
  | .lst _ xs => some (.int xs.length)
  | .dic _ xs => some (.int xs.length)
  | .scr ns => some (.int ns.length)
  | _ => none
def pAbs : PV → Option PV
  | .int i => some (.int (if i < 0 then -i else i))
  | _ => none
def pInt : PV → Option PV
  | .int i => some (.int i)
  | .bl b => some (.int (if b then 1 else 0))
  | .str x => if x.length ≤ 640 then (PySem.intText? x).map .int else none
  | _ => none
def pMax2 : PV → PV → Option PV
  | .int i, .int j => some (.int (if j > i then j else i))
  | _, _ => none
def pMin2 : PV → PV → Option PV
  | .int i, .int j => some (.int (if j < i then j else i))
  | _, _ => none
def intsOf : List PV → Option (List Int)
  | [] => some []
  | .int i :: xs => (intsOf xs).map fun ns => i :: ns
  | _ :: _ => none
def blsOf : List PV → Option (List Bool)
  | [] => some []
  | .bl i :: xs => (blsOf xs).map fun ns => i :: ns
  | _ :: _ => none
def strsOf : List PV → Option (List Str)
  | [] => some []
  | .str i :: xs => (strsOf xs).map fun ns => i :: ns
  | _ :: _ => none
def pSum : PV → Option PV
  | .lst _ xs => (intsOf xs).map fun ns => .int ns.sum
  | _ => none
def pAll : PV → Option PV
  | .lst _ xs => (blsOf xs).map fun ns => .bl (ns.all id)
  | _ => none
def pAny : PV → Option PV
  | .lst _ xs => (blsOf xs).map fun ns => .bl (ns.any id)
  | _ => none
def pTuple : PV → Option PV
  | .lst _ xs => some (.tup xs)
  | .tup xs => some (.tup xs)
  | _ => none
def lList : PV → Option (List PV)
  | .lst _ xs => some xs
  | .tup xs => some xs
  | .scr ns => some (ns.map .int)
  | _ => none
def pStr : PV → Option PV
  | .int i => if i.natAbs.log2 < 1920 then some (.str (toString i)) else none
  | _ => none
section
variable {c : Cn} {X : Cx}
theorem intsOf_ok {F : Hp} : ∀ {ws : List V} {vs : List PV} {ns : List Int}, Reps c F ws vs → intsOf vs = some ns → ws = ns.map V.int
  | _, _, _, .nil, e => by cases e; rfl
  | _, _, _, .cons h r, e => by
    cases h with
    | int i =>
      obtain ⟨ms, e1, rfl⟩ := Option.map_eq_some_iff.mp e
      rw [intsOf_ok r e1]
      rfl
    | _ => cases e
theorem blsOf_ok {F : Hp} : ∀ {ws : List V} {vs : List PV} {ns : List Bool}, Reps c F ws vs → blsOf vs = some ns → ws = ns.map V.bl
  | _, _, _, .nil, e => by cases e; rfl
  | _, _, _, .cons h r, e => by
    cases h with
    | bl i =>
      obtain ⟨ms, e1, rfl⟩ := Option.map_eq_some_iff.mp e
      rw [blsOf_ok r e1]
      rfl
    | _ => cases e
theorem strsOf_ok {F : Hp} : ∀ {ws : List V} {vs : List PV} {ns : List Str}, Reps c F ws vs → strsOf vs = some ns → ws = ns.map V.str
  | _, _, _, .nil, e => by cases e; rfl
  | _, _, _, .cons h r, e => by
    cases h with
    | str i =>
      obtain ⟨ms, e1, rfl⟩ := Option.map_eq_some_iff.mp e
      rw [strsOf_ok r e1]
      rfl
    | _ => cases e
def rLen (K : PySem.W.Frag) : List V → Hp → VK → Prop := fun xs H Q => (∃ x n, xs = [x] ∧ LenV K x H n ∧ Q (.int n) H) ∨ ∃ d kvs, xs = [.ref d] ∧ Rd H d (.dK kvs) ∧ Q (.int kvs.length) H
theorem call_len2 : CallR X (.builtin "len") (rLen X.K) := call_len.or fun pins s σ H xs us Q I r h => by
  obtain ⟨d, kvs, rfl, e, q⟩ := h
  rw [Vals.ref1 r]
  exact d_len I e fun t s' J => ⟨.int kvs.length, H, J, ⟨t, rfl⟩, q⟩
theorem o_len (hk : c.K = X.K) : Op1 c pLen fun x => rLen X.K [x] := fun F H x a v Q s ra e q => by
  rw [← hk]
  cases ra with
  | str y =>
    have e' : (if y.length ≤ sizeLine then some (PV.int y.length) else none) = some v := e
    by_cases h : y.length ≤ sizeLine
    · rw [if_pos h] at e'
      cases e'
      exact .inl ⟨_, _, rfl, ⟨h, rfl⟩, q _ F H (Grow.refl s) (.int _)⟩
    · rw [if_neg h] at e'
      cases e'
  | tup h r => cases e; exact .inl ⟨_, _, rfl, .inr ⟨_, SqT.of (s _ _ h), rfl⟩, by rw [r.length]; exact q _ F H (Grow.refl s) (.int _)⟩
  | lst h r _ => cases e; exact .inl ⟨_, _, rfl, .inl ⟨_, SqL.of (s _ _ h), rfl⟩, by rw [r.length]; exact q _ F H (Grow.refl s) (.int _)⟩
  | scr h => cases e; exact .inl ⟨_, _, rfl, .inl ⟨_, s.seq h, rfl⟩, by rw [List.length_map]; exact q _ F H (Grow.refl s) (.int _)⟩
  | dic h r _ => cases e; exact .inr ⟨_, _, rfl, .inl (s _ _ h), by rw [r.length]; exact q _ F H (Grow.refl s) (.int _)⟩
  | _ => cases e
theorem o_abs : Op1 c pAbs fun x => (fun xs H Q => ∃ i, xs = [V.int i] ∧ Q (.int (if i < 0 then -i else i)) H) [x] := fun F H x a v Q s ra e q => by
  cases ra with
  | int i => cases e; exact ⟨i, rfl, q _ F H (Grow.refl s) (.int _)⟩
  | _ => cases e
def rInt : List V → Hp → VK → Prop := fun xs H Q => ((∃ i, xs = [V.int i] ∧ Q (.int i) H) ∨ ∃ k, xs = [V.bl k] ∧ Q (.int (if k then 1 else 0)) H) ∨ ∃ a n, xs = [V.str a] ∧ PySem.intText? a = some n ∧ a.length ≤ 640 ∧ Q (.int n) H
theorem call_intS : CallR X (.type "int") rInt := call_int1.or call_int_str
theorem o_int : Op1 c pInt fun x => rInt [x] := fun F H x a v Q s ra e q => by
  cases ra with
  | int i => cases e; exact .inl (.inl ⟨i, rfl, q _ F H (Grow.refl s) (.int _)⟩)
  | bl i => cases e; exact .inl (.inr ⟨i, rfl, q _ F H (Grow.refl s) (.int _)⟩)
  | str y =>
    have e' : (if y.length ≤ 640 then (PySem.intText? y).map PV.int else none) = some v := e
    by_cases h : y.length ≤ 640
    · rw [if_pos h] at e'
      obtain ⟨n, e1, rfl⟩ := Option.map_eq_some_iff.mp e'
      exact .inr ⟨y, n, rfl, e1, h, q _ F H (Grow.refl s) (.int _)⟩
    · rw [if_neg h] at e'; cases e'
  | _ => cases e
theorem o_max2 : Op2 c pMax2 fun x y => (fun xs H Q => ∃ i j, xs = [V.int i, V.int j] ∧ Q (.int (if j > i then j else i)) H) [x, y] := of2I (fun F H i j v Q s e q => by
  cases e
  exact ⟨i, j, rfl, q _ F H (Grow.refl s) (.int _)⟩) fun a b v e => by
  unfold pMax2 at e
  split at e
  · exact ⟨_, _, rfl, rfl⟩
  · cases e
theorem o_min2 : Op2 c pMin2 fun x y => (fun xs H Q => ∃ i j, xs = [V.int i, V.int j] ∧ Q (.int (if j < i then j else i)) H) [x, y] := of2I (fun F H i j v Q s e q => by
  cases e
  exact ⟨i, j, rfl, q _ F H (Grow.refl s) (.int _)⟩) fun a b v e => by
  unfold pMin2 at e
  split at e
  · exact ⟨_, _, rfl, rfl⟩
  · cases e
theorem o_sum (hk : c.K = X.K) : Op1 c pSum fun x => rSum X.K [x] := fun F H x a v Q s ra e q => by
  cases ra with
  | lst h r _ =>
    obtain ⟨ns, e1, rfl⟩ := Option.map_eq_some_iff.mp e
    have ew := intsOf_ok r e1
    subst ew
    exact ⟨_, ns, rfl, SqL.of (s _ _ h), q _ F H (Grow.refl s) (.int _)⟩
  | _ => cases e
theorem o_all (hk : c.K = X.K) : Op1 c pAll fun x => rAll X.K [x] := fun F H x a v Q s ra e q => by
  cases ra with
  | lst h r _ =>
    obtain ⟨ns, e1, rfl⟩ := Option.map_eq_some_iff.mp e
    have ew := blsOf_ok r e1
    subst ew
    exact ⟨_, ns, rfl, SqL.of (s _ _ h), q _ F H (Grow.refl s) (.bl _)⟩
  | _ => cases e
theorem o_any (hk : c.K = X.K) : Op1 c pAny fun x => rAny X.K [x] := fun F H x a v Q s ra e q => by
  cases ra with
  | lst h r _ =>
    obtain ⟨ns, e1, rfl⟩ := Option.map_eq_some_iff.mp e
    have ew := blsOf_ok r e1
    subst ew
    exact ⟨_, ns, rfl, SqL.of (s _ _ h), q _ F H (Grow.refl s) (.bl _)⟩
  | _ => cases e
def rTupOf (K : PySem.W.Frag) : List V → Hp → VK → Prop := fun xs H Q => ∃ p ys, xs = [.ref p] ∧ ((SqL K H p ys ∧ ∀ l, H l = none → Q (.ref l) (upd H l (.tup ys))) ∨ (SqT K H p ys ∧ Q (.ref p) H))
theorem call_tuple2 : CallR X (.type "tuple") (rTupOf X.K) := call_tuple_of
theorem o_tuple (hk : c.K = X.K) : Op1 c pTuple fun x => rTupOf X.K [x] := fun F H x a v Q s ra e q => by
  cases ra with
  | @lst a vs g xs h r _ =>
    cases e
    refine ⟨_, _, rfl, .inl ⟨SqL.of (s _ _ h), fun p hp => ?_⟩⟩
    have gr := upd_grow (o := .tup vs) s hp
    exact q _ _ _ gr (.tup upd_same (r.mono gr.ff))
  | tup h r => cases e; exact ⟨_, _, rfl, .inr ⟨SqT.of (s _ _ h), q _ F H (Grow.refl s) (.tup h r)⟩⟩
  | _ => cases e
def rLstOf (K : PySem.W.Frag) : List V → Hp → VK → Prop := fun xs H Q => ∃ p ys, xs = [.ref p] ∧ (SqL K H p ys ∨ SqT K H p ys) ∧ ∀ l, H l = none → Q (.ref l) (upd H l (.lst ys))
theorem call_list2 : CallR X (.type "list") (rLstOf X.K) := call_list_of
theorem o_list (hk : c.K = X.K) : Ol1 c lList fun x => rLstOf X.K [x] := fun F H x a v Q s ra e q => by
  rw [← hk]
  cases ra with
  | lst h r _ => cases e; exact ⟨_, _, rfl, .inl (SqL.of (s _ _ h)), fun p hp => q _ r p hp⟩
  | tup h r => cases e; exact ⟨_, _, rfl, .inr (SqT.of (s _ _ h)), fun p hp => q _ r p hp⟩
  | scr h => cases e; exact ⟨_, _, rfl, .inl (s.seq h), fun p hp => q _ (Reps.ofInts _) p hp⟩
  | _ => cases e
theorem o_str : Op1 c pStr fun x => (fun xs H Q => ∃ i, xs = [V.int i] ∧ i.natAbs.log2 < 1920 ∧ Q (.str (toString i)) H) [x] := fun F H x a v Q s ra e q => by
  cases ra with
  | int i =>
    have e' : (if i.natAbs.log2 < 1920 then some (PV.str (toString i)) else none) = some v := e
    by_cases h : i.natAbs.log2 < 1920
    · rw [if_pos h] at e'
      cases e'
      exact ⟨i, rfl, h, q _ F H (Grow.refl s) (.str _)⟩
    · rw [if_neg h] at e'
      cases e'
  | _ => cases e
end

/-! ### subscripts, slices -/
def valP (kvs : List (Key × PV)) (k : Key) : Option PV := (kvs.find? fun kv => decide (kv.1 = k)).map (·.2)
def keyP : PV → Option Key
  | .int i => some (.inl i)
  | .str x => some (.inr x)
  | _ => none
def pIx : PV → PV → Option PV
  | .tup xs, .int i => atI xs i
  | .lst _ xs, .int i => atI xs i
  | .scr ns, .int i => (atI ns i).map .int
  | .str z, .int i => if z.length ≤ sizeLine then (atI z.cps.toList i).map fun k => .str ⟨#[k]⟩ else none
  | .dic _ kvs, k => (keyP k).bind fun k => valP kvs k
  | _, _ => none
def cutP {α : Type} (xs : List α) (lo hi : Option Int) : List α := (xs.drop (HT.sIx xs.length 0 lo)).take (HT.sIx xs.length xs.length hi - HT.sIx xs.length 0 lo)
def pSl (x : PV) (lo hi : Option Int) : Option PV := match x with
  | .tup xs => some (.tup (cutP xs lo hi))
  | .lst _ xs => some (.lst none (cutP xs lo hi))
  | .scr ns => some (.lst none ((cutP ns lo hi).map .int))
  | .str z => if z.length ≤ sizeLine then some (.str (Txt.slice z lo hi)) else none
  | _ => none
def lSlice (x : PV) (lo hi : Option Int) : Option (List PV) := match x with
  | .lst _ xs => some (cutP xs lo hi)
  | .scr ns => some ((cutP ns lo hi).map .int)
  | _ => none
section
variable {c : Cn} {X : Cx}
theorem atI_len {α β : Type} {xs : List α} {ys : List β} {i : Int} {y : β} (e : ys.length = xs.length) (h : atI ys i = some y) : ∃ j, ixN xs.length i = some j ∧ ys[j]? = some y := by
  unfold atI at h
  obtain ⟨j, h1, h2⟩ := Option.bind_eq_some_iff.mp h
  exact ⟨j, by rw [← e]; exact h1, h2⟩
theorem Reps.atI {F : Hp} {vs : List V} {xs : List PV} {i : Int} {x : PV} (r : Reps c F vs xs) (h : atI xs i = some x) : ∃ v, L2.atI vs i = some v ∧ Rep c F v x := by
  obtain ⟨j, h1, h2⟩ := atI_len (xs := vs) r.length.symm h
  obtain ⟨v, h3, h4⟩ := r.get h2
  exact ⟨v, by unfold L2.atI; rw [h1]; exact h3, h4⟩
theorem RepD.val {F : Hp} {k : Key} {x : PV} : ∀ {vs : List (Key × V)} {xs : List (Key × PV)}, RepD c F vs xs → valP xs k = some x → ∃ v, valV vs k = some v ∧ Rep c F v x
  | _, _, .nil, e => by cases e
  | _, _, .cons (k := k') h r, e => by
    unfold valP at e
    by_cases q : k' = k
    · rw [List.find?_cons_of_pos (by simp [q])] at e
      cases e
      exact ⟨_, valV_pos q, h⟩
    · rw [List.find?_cons_of_neg (by simp [q])] at e
      obtain ⟨v, h1, h2⟩ := RepD.val r e
      exact ⟨v, by rw [valV_neg q]; exact h1, h2⟩
theorem keyP_ok {F : Hp} {w : V} {v : PV} {k : Key} (r : Rep c F w v) (e : keyP v = some k) : w = kV k := by
  cases r <;> first | (cases e; rfl) | cases e
def rIxD2 : R2 := fun x y H Q => ∃ a v, x = .ref a ∧ DGet H a y (some v) ∧ Q v H
theorem ix_dict (hu : X.A.units + 1 < cLine) : IxR X rIxD2 := by
  intro value slice pins s σ H x y v u Q I rx ry h
  obtain ⟨a, z, rfl, g, q⟩ := h
  obtain rfl : v = Value.ref a := rx
  exact fun hs => tail_any (dict_typeIs I g) PySem.F.slot_dict_getitem.lookup (d_getItem hu I g ry fun w' s' J r => ⟨z, H, J, r, q⟩) hs
def rIx4 (K : PySem.W.Frag) : R2 := fun x y H Q => rIx K x y H Q ∨ rIxD2 x y H Q
theorem ix_4 (hu : X.A.units + 1 < cLine) : IxR X (rIx4 X.K) := ix_seq.or (ix_dict hu)
theorem atI_map {α β : Type} (f : α → β) {xs : List α} {i : Int} {x : α} (h : L2.atI xs i = some x) : L2.atI (xs.map f) i = some (f x) := by
  unfold L2.atI at h ⊢
  obtain ⟨j, h1, h2⟩ := Option.bind_eq_some_iff.mp h
  rw [List.length_map, h1]
  show (xs.map f)[j]? = _
  rw [List.getElem?_map, h2]
  rfl
theorem o_ix (hk : c.K = X.K) : Op2 c pIx (rIx4 X.K) := fun F H x y a b v Q s ra rb e q => by
  rw [← hk]
  cases ra with
  | tup h r =>
    cases rb with
    | int i =>
      obtain ⟨w, h1, h2⟩ := r.atI (show L2.atI _ i = some v from e)
      exact .inl (.inr (.inl ⟨_, _, i, w, rfl, rfl, SqT.of (s _ _ h), h1, q _ F H (Grow.refl s) h2⟩))
    | _ => cases e
  | lst h r _ =>
    cases rb with
    | int i =>
      obtain ⟨w, h1, h2⟩ := r.atI (show L2.atI _ i = some v from e)
      exact .inl (.inl ⟨_, _, i, w, rfl, rfl, SqL.of (s _ _ h), h1, q _ F H (Grow.refl s) h2⟩)
    | _ => cases e
  | @scr a ns h =>
    cases rb with
    | int i =>
      obtain ⟨n, h1, rfl⟩ := Option.map_eq_some_iff.mp (show (L2.atI ns i).map PV.int = some v from e)
      exact .inl (.inl ⟨_, _, i, _, rfl, rfl, s.seq h, atI_map V.int h1, q _ F H (Grow.refl s) (.int _)⟩)
    | _ => cases e
  | str z =>
    cases rb with
    | int i =>
      have e' : (if z.length ≤ sizeLine then (L2.atI z.cps.toList i).map fun k => PV.str ⟨#[k]⟩ else none) = some v := e
      by_cases hz : z.length ≤ sizeLine
      · rw [if_pos hz] at e'
        obtain ⟨n, h1, rfl⟩ := Option.map_eq_some_iff.mp e'
        exact .inl (.inr (.inr ⟨z, i, n, rfl, rfl, hz, h1, q _ F H (Grow.refl s) (.str _)⟩))
      · rw [if_neg hz] at e'
        cases e'
    | _ => cases e
  | @dic a vs g xs h r _ =>
    obtain ⟨k, h1, h2⟩ := Option.bind_eq_some_iff.mp (show (keyP b).bind (fun k => valP xs k) = some v from by cases b <;> exact e)
    obtain ⟨w, h3, h4⟩ := r.val h2
    have ek := keyP_ok rb h1
    subst ek
    refine .inr ⟨_, w, rfl, ?_, q _ F H (Grow.refl s) h4⟩
    rw [← h3]
    exact DGet.k (s _ _ h)
  | _ => cases rb <;> cases e
def rSl3 (K : PySem.W.Frag) : V → Option Int → Option Int → Hp → VK → Prop := fun x lo hi H Q => C8.rSlX x lo hi H Q ∨ (rSlA K x lo hi H Q ∨ rSlL K x lo hi H Q)
theorem sl_3 : SlR X (rSl3 X.K) := C8.sl_txt.or (sl_tupA.or sl_list)
theorem Reps.cut {F : Hp} {vs : List V} {xs : List PV} (r : Reps c F vs xs) (lo hi : Option Int) : Reps c F (cutV vs lo hi) (cutP xs lo hi) := by
  unfold cutV cutP
  rw [r.length]
  exact (r.drop _).take _
theorem cut_ints (ns : List Int) (lo hi : Option Int) : cutV (ns.map V.int) lo hi = (cutP ns lo hi).map V.int := by
  unfold cutV cutP
  rw [List.length_map, List.map_take, List.map_drop]
theorem cutP_whole {α : Type} {xs : List α} {lo hi : Option Int} (h : HT.sIx xs.length 0 lo = 0 ∧ HT.sIx xs.length xs.length hi = xs.length) : cutP xs lo hi = xs := by
  unfold cutP
  rw [h.1, h.2]
  simp
theorem o_sl (hk : c.K = X.K) : OpS c pSl (rSl3 X.K) := fun lo hi F H x a v Q s ra e q => by
  rw [← hk]
  cases ra with
  | @tup a vs xs h r =>
    cases e
    refine .inr (.inl ⟨a, vs, rfl, SqT.of (s _ _ h), fun z => ?_, fun _ p hp => ?_⟩)
    · rw [r.length] at z
      rw [cutP_whole z] at q
      exact q _ F H (Grow.refl s) (.tup h r)
    · have gr := upd_grow (o := .tup (cutV vs lo hi)) s hp
      exact q _ _ _ gr (.tup upd_same ((r.cut lo hi).mono gr.ff))
  | @lst a vs g xs h r _ =>
    cases e
    refine .inr (.inr ⟨a, vs, rfl, SqL.of (s _ _ h), fun p hp => ?_⟩)
    have gr := upd_grow (o := .lst (cutV vs lo hi)) s hp
    exact q _ _ _ gr (.lst upd_same ((r.cut lo hi).mono gr.ff) fun _ z => nomatch z)
  | @scr a ns h =>
    cases e
    refine .inr (.inr ⟨a, _, rfl, s.seq h, fun p hp => ?_⟩)
    have gr := upd_grow (o := .lst (cutV (ns.map V.int) lo hi)) s hp
    exact q _ _ _ gr (.lst upd_same (by rw [cut_ints]; exact Reps.ofInts _) fun _ z => nomatch z)
  | str z =>
    have e' : (if z.length ≤ sizeLine then some (PV.str (Txt.slice z lo hi)) else none) = some v := e
    by_cases hz : z.length ≤ sizeLine
    · rw [if_pos hz] at e'
      cases e'
      exact .inl ⟨z, rfl, hz, q _ F H (Grow.refl s) (.str _)⟩
    · rw [if_neg hz] at e'
      cases e'
  | _ => cases e
theorem o_slL (hk : c.K = X.K) : OlS c lSlice (rSlL X.K) := fun lo hi F H x a v Q s ra e q => by
  rw [← hk]
  cases ra with
  | @lst a vs g xs h r _ =>
    cases e
    exact ⟨a, vs, rfl, SqL.of (s _ _ h), fun p hp => q _ (r.cut lo hi) p hp⟩
  | @scr a ns h =>
    cases e
    exact ⟨a, _, rfl, s.seq h, fun p hp => q _ (by rw [cut_ints]; exact Reps.ofInts _) p hp⟩
  | _ => cases e
end

/-! ### isinstance -/
def tyN : PV → Option String
  | .non => some "NoneType"
  | .bl _ => some "bool"
  | .int _ => some "int"
  | .str _ => some "str"
  | .tup _ => some "tuple"
  | .lst _ _ => some "list"
  | .dic _ _ => some "dict"
  | _ => none
def isT (T : String) (v : PV) : Option Bool := (tyN v).bind fun t => kitB t T
def pIsi (T : String) (v : PV) : Option PV := (isT T v).map .bl
def anyT (v : PV) : List String → Option Bool
  | [] => some false
  | T :: Ts => (isT T v).bind fun b => if b = true then some true else anyT v Ts
def pIsiT (Ts : List String) (v : PV) : Option PV := (anyT v Ts).map .bl
section
variable {c : Cn} {X : Cx} {W : WX} {a : Expr} {pos : Pos} {ga : GE}
theorem tyN_ok {F H : Hp} {x : V} {v : PV} {t : String} (s : Same F H) (r : Rep c F x v) (e : tyN v = some t) : TyOf c.K H x (.type t) := by
  cases r with
  | non => cases e; exact .non
  | bl b => cases e; exact .bl b
  | int i => cases e; exact .int i
  | str y => cases e; exact .str y
  | tup h r => cases e; exact .tup (s _ _ h)
  | lst h r _ => cases e; exact .lst (s _ _ h)
  | dic h r _ => cases e; exact .dK (s _ _ h)
  | _ => cases e
/-- isinstance(e, T), T a built-in class by its name -/
theorem ve_isi {x T : Str} {U : String} {p p2 : Pos} (hk : c.K = X.K) (hg : Gl X x) (hm : X.mg x = none) (hv : bootBuiltins x = some (.builtin "isinstance")) (ha : PE X a (tE c W ga)) (hgT : Gl X T) (hmT : X.mg T = none) (hvT : bootBuiltins T = some (.type U))
    (hn : x ≠ "__name__" := by decide) (hdb : (x == ("__debug__" : Str)) = false := by decide) (hnT : T ≠ "__name__" := by decide) (hdT : (T == ("__debug__" : Str)) = false := by decide)
    (he : starEach [a, .Name T p2] X.env = (false, eval a X.env) :: starEach [.Name T p2] X.env := by rfl) (he2 : starEach [.Name T p2] X.env = (false, eval (.Name T p2) X.env) :: starEach [] X.env := by rfl)
    (hpl : (backTo pos (starEach [.Name T p2] X.env)).any (·.1) = false := by rfl) : PE X (.Call (.Name x p) [a, .Name T p2] [] pos) (tE c W (eOp1 (pIsi U) ga)) :=
  imp_PE (pe_callB call_isi hg hm hv (pa_cons ha (pa_cons (pe_bltn (v := .ty U) hgT hmT hvT rfl hnT hdT) pa_nil he2) he) hn hdb he hpl) fun σ H Q ⟨ρ, F, er, z⟩ => by
    refine tE_bind er z fun v ρ1 w F1 H1 st rep h1 => ?_
    obtain ⟨u, e, h1⟩ := lift_run h1
    obtain ⟨b, e1, rfl⟩ := Option.map_eq_some_iff.mp e
    obtain ⟨t, e2, e3⟩ := Option.bind_eq_some_iff.mp e1
    refine ⟨w, .ty U, .type t, .type U, b, rfl, .ty U, .base ?_, kit_ty e3, h1 _ F1 H1 st (.bl b)⟩
    rw [← hk]
    exact tyN_ok st.2.sub rep e2
end
end VL

set_option Elab.async false
set_option linter.all false
set_option maxRecDepth 100000
set_option maxHeartbeats 1000000
/-! VL, part 4: in, methods, calls, what is walked, comprehensions. -/
namespace VL
open PySem PySem.Spec PyProof.Rows L2

/-! ### in -/
def flatP : PV → Bool
  | .non => true
  | .bl _ => true
  | .int _ => true
  | .str _ => true
  | _ => false
def eqF : PV → PV → Bool
  | .non, .non => true
  | .bl a, .bl b => a == b
  | .bl a, .int b => (if a then 1 else 0) == b
  | .int a, .bl b => a == (if b then 1 else 0)
  | .int a, .int b => a == b
  | .str a, .str b => a == b
  | _, _ => false
def inS (x z : Str) : Option Bool := match x.cps.toList with
  | [k] => some (decide (k ∈ z.cps.toList))
  | _ => none
def inD (a : PV) (xs : List PV) : Option Bool := match pvD a, pvDs xs with
  | some d, some ds => if SeqAt.shaped d = true ∧ SeqAt.shaped (.list ds) = true then some (ds.any fun z => PyData.eqv z d) else none
  | _, _ => none
def inB : PV → PV → Option Bool
  | .str x, .str z => inS x z
  | a, .lst _ xs => if flatP a = true ∧ xs.all flatP = true then some (xs.any fun y => eqF y a) else inD a xs
  | a, .tup xs => if flatP a = true ∧ xs.all flatP = true then some (xs.any fun y => eqF y a) else none
  | a, .dic _ kvs => (keyP a).map fun k => (valP kvs k).isSome
  | _, _ => none
def pIn (a b : PV) : Option PV := (inB a b).map .bl
def pNotIn (a b : PV) : Option PV := (inB a b).map fun k => .bl (!k)
section
variable {c : Cn} {X : Cx}
theorem flatP_ok {F : Hp} {w : V} {v : PV} (r : Rep c F w v) (e : flatP v = true) : flatV w = true := by
  cases r <;> first | rfl | cases e
theorem flatP_all {F : Hp} : ∀ {ws : List V} {vs : List PV}, Reps c F ws vs → vs.all flatP = true → ws.all flatV = true
  | _, _, .nil, _ => rfl
  | _, _, .cons h r, e => by
    rw [List.all_cons, Bool.and_eq_true] at e ⊢
    exact ⟨flatP_ok h e.1, flatP_all r e.2⟩
theorem eqF_ok {F : Hp} {w u : V} {v z : PV} (r : Rep c F w v) (r' : Rep c F u z) (f : flatP v = true) (f' : flatP z = true) : eqV w u = eqF v z := by
  cases r <;> cases r' <;> first
    | exact absurd (show false = true from f) Bool.false_ne_true
    | exact absurd (show false = true from f') Bool.false_ne_true
    | rfl
theorem eqF_any {F : Hp} {u : V} {z : PV} (r' : Rep c F u z) (f' : flatP z = true) : ∀ {ws : List V} {vs : List PV}, Reps c F ws vs → vs.all flatP = true → inV u ws = vs.any fun y => eqF y z
  | _, _, .nil, _ => rfl
  | _, _, .cons h r, e => by
    rw [List.all_cons, Bool.and_eq_true] at e
    show (eqV _ u || inV u _) = _
    rw [List.any_cons, eqF_ok h r' e.1 f', eqF_any r' f' r e.2]
/-- in: a sign in a text, flat things in a list | a tuple, data in a list, a key in a dict -/
def rInA (K : PySem.W.Frag) (f : Bool → Bool) : R2 := fun x y H Q => (∃ (k : Nat) (z : Str), x = .str ⟨#[k]⟩ ∧ y = .str z ∧ Q (.bl (f (decide (k ∈ z.cps.toList)))) H) ∨
  ((∃ p xs, y = .ref p ∧ (SqL K H p xs ∨ SqT K H p xs) ∧ flatV x = true ∧ xs.all flatV = true ∧ Q (.bl (f (inV x xs))) H) ∨
  ((∃ d ds, Dp K H x d ∧ Dp K H y (.list ds) ∧ SeqAt.shaped d = true ∧ SeqAt.shaped (.list ds) = true ∧ Q (.bl (f (ds.any fun z => PyData.eqv z d))) H) ∨
  ∃ a o, y = .ref a ∧ DGet H a x o ∧ Q (.bl (f o.isSome)) H))
theorem op_inA (hu : X.A.units + 65 < cLine) : OpR X (compareOp .In) (rInA X.K id) := op_in_sign.or (op_in_seq.or ((op_inD hu).or (by
  intro pins s σ H x y v u Q I rx ry h
  obtain ⟨a, o, rfl, g, q⟩ := h
  obtain rfl : u = Value.ref a := ry
  exact d_in (by omega) I g rx fun s' J => ⟨.bl _, H, J, rfl, q⟩)))
theorem op_notInA (hu : X.A.units + 65 < cLine) : OpR X (compareOp .NotIn) (rInA X.K (!·)) := op_notIn_sign.or (op_notIn_seq.or ((op_notInD hu).or (by
  intro pins s σ H x y v u Q I rx ry h
  obtain ⟨a, o, rfl, g, q⟩ := h
  obtain rfl : u = Value.ref a := ry
  exact d_notIn (by omega) I g rx fun s' J => ⟨.bl _, H, J, rfl, q⟩)))
theorem str_one {x : Str} {k : Nat} (h : x.cps.toList = [k]) : x = ⟨#[k]⟩ := by
  obtain ⟨a⟩ := x
  have e : a = #[k] := by
    apply Array.ext'
    rw [h]
  rw [e]
theorem RepD.isSome {F : Hp} {z : Key} : ∀ {vs : List (Key × V)} {xs : List (Key × PV)}, RepD c F vs xs → (valV vs z).isSome = (valP xs z).isSome
  | _, _, .nil => rfl
  | _, _, .cons (k := k') h r => by
    by_cases q : k' = z
    · rw [valV_pos q]
      unfold valP
      rw [List.find?_cons_of_pos (by simp [q])]
      rfl
    · rw [valV_neg q, RepD.isSome r]
      unfold valP
      rw [List.find?_cons_of_neg (by simp [q])]
theorem inB_ok {f : Bool → Bool} {F H : Hp} {x y : V} {a b : PV} {k : Bool} {Q : VK} (s : Same F H) (ra : Rep c F x a) (rb : Rep c F y b) (e : inB a b = some k) (q : Q (.bl (f k)) H) : rInA c.K f x y H Q := by
  have list : ∀ {p : Addr} {vs : List V} {g : Option Addr} {xs : List PV}, F p = some (.lst vs) → Reps c F vs xs → (if flatP a = true ∧ xs.all flatP = true then some (xs.any fun y => eqF y a) else inD a xs) = some k → rInA c.K f x (.ref p) H Q := by
    intro p vs g xs h r e
    by_cases hf : flatP a = true ∧ xs.all flatP = true
    · rw [if_pos hf] at e
      cases e
      exact .inr (.inl ⟨p, vs, rfl, .inl (SqL.of (s _ _ h)), flatP_ok ra hf.1, flatP_all r hf.2, by rw [eqF_any ra hf.1 r hf.2]; exact q⟩)
    · rw [if_neg hf] at e
      unfold inD at e
      split at e
      · rename_i d ds h1 h2
        split at e
        · rename_i hs
          cases e
          exact .inr (.inr (.inl ⟨d, ds, pvD_ok (ra.mono s) h1, .lst (SqL.of (s _ _ h)) (pvDs_ok (r.mono s) h2), hs.1, hs.2, q⟩))
        · cases e
      · cases e
  have tup : ∀ {p : Addr} {vs : List V} {xs : List PV}, F p = some (.tup vs) → Reps c F vs xs → (if flatP a = true ∧ xs.all flatP = true then some (xs.any fun y => eqF y a) else none) = some k → rInA c.K f x (.ref p) H Q := by
    intro p vs xs h r e
    by_cases hf : flatP a = true ∧ xs.all flatP = true
    · rw [if_pos hf] at e
      cases e
      exact .inr (.inl ⟨p, vs, rfl, .inr (SqT.of (s _ _ h)), flatP_ok ra hf.1, flatP_all r hf.2, by rw [eqF_any ra hf.1 r hf.2]; exact q⟩)
    · rw [if_neg hf] at e
      cases e
  have dic : ∀ {p : Addr} {vs : List (Key × V)} {xs : List (Key × PV)}, F p = some (.dK vs) → RepD c F vs xs → (keyP a).map (fun k => (valP xs k).isSome) = some k → rInA c.K f x (.ref p) H Q := by
    intro p vs xs h r e
    obtain ⟨z, h1, h2⟩ := Option.map_eq_some_iff.mp e
    have ek := keyP_ok ra h1
    subst ek
    refine .inr (.inr (.inr ⟨p, _, rfl, DGet.k (s _ _ h), ?_⟩))
    rw [r.isSome, h2]
    exact q
  cases rb with
  | lst h r _ => exact list (g := none) h r (by cases ra <;> exact e)
  | tup h r => exact tup h r (by cases ra <;> exact e)
  | dic h r _ => exact dic h r (by cases ra <;> exact e)
  | str z =>
    cases ra with
    | str x =>
      have e' : inS x z = some k := e
      unfold inS at e'
      split at e'
      · rename_i n hn
        cases e'
        exact .inl ⟨n, z, by rw [str_one hn], rfl, q⟩
      · cases e'
    | _ => cases e
  | _ => cases ra <;> cases e
theorem o_in (hk : c.K = X.K) : Op2 c pIn (rInA X.K id) := fun F H x y a b v Q s ra rb e q => by
  obtain ⟨k, e1, rfl⟩ := Option.map_eq_some_iff.mp e
  rw [← hk]
  exact inB_ok s ra rb e1 (q _ F H (Grow.refl s) (.bl k))
theorem o_notIn (hk : c.K = X.K) : Op2 c pNotIn (rInA X.K (!·)) := fun F H x y a b v Q s ra rb e q => by
  obtain ⟨k, e1, rfl⟩ := Option.map_eq_some_iff.mp e
  rw [← hk]
  exact inB_ok s ra rb e1 (q _ F H (Grow.refl s) (.bl !k))
end

/-! ### isinstance with a tuple of classes; texts' methods -/
section
variable {c : Cn} {X : Cx} {W : WX} {a b : Expr} {pos : Pos} {ga gb : GE}
/-- names of built-in classes, from the left -/
inductive TyNames (X : Cx) : List Expr → List String → Prop
  | nil : TyNames X [] []
  | cons {T : Str} {U : String} {p : Pos} {es : List Expr} {us : List String} (hg : Gl X T) (hm : X.mg T = none) (hv : bootBuiltins T = some (.type U)) (hn : T ≠ "__name__") (hd : (T == ("__debug__" : Str)) = false) (r : TyNames X es us)
      (he : starEach (.Name T p :: es) X.env = (false, eval (.Name T p) X.env) :: starEach es X.env) : TyNames X (.Name T p :: es) (U :: us)
def tVs (vs : List V) : TA := fun _ H Q => Q vs H
theorem tyNames_pa {es : List Expr} {us : List String} (h : TyNames X es us) : PA X es (tVs (us.map V.ty)) := by
  induction h with
  | nil => exact pa_nil
  | cons hg hm hv hn hd r he ih => exact pa_cons (pe_bltn (v := .ty _) hg hm hv rfl hn hd) ih he
theorem anyT_ok {K : PySem.W.Frag} {v : PV} {t : String} (ht : tyN v = some t) : ∀ {us : List String} {b : Bool}, anyT v us = some b → PySem.W.kitAny K (.type t) (us.map Value.type) = some b
  | [], b, e => by cases e; rfl
  | u :: us, b, e => by
    obtain ⟨k, e1, e2⟩ := Option.bind_eq_some_iff.mp (show (isT u v).bind _ = some b from e)
    obtain ⟨t', e3, e4⟩ := Option.bind_eq_some_iff.mp e1
    rw [ht] at e3
    cases e3
    have q : PySem.W.kitOne K (.type t) (.type u) = some k := kit_ty e4
    show PySem.W.kitAny K (.type t) (.type u :: us.map Value.type) = some b
    unfold PySem.W.kitAny
    rw [q]
    cases k with
    | true => cases e2; rfl
    | false => exact anyT_ok ht e2
theorem clsV_all : ∀ us : List String, Paired ClsV (us.map V.ty) (us.map Value.type)
  | [] => .nil
  | u :: us => .cons (.ty u) (clsV_all us)
theorem ve_isiT {x : Str} {es : List Expr} {us : List String} {p p2 : Pos} {k2 : Nat} (hk : c.K = X.K) (hg : Gl X x) (hm : X.mg x = none) (hv : bootBuiltins x = some (.builtin "isinstance")) (hz : us.length ≤ sizeLine) (hne : us ≠ []) (ha : PE X a (tE c W ga)) (ht : TyNames X es us)
    (hn : x ≠ "__name__" := by decide) (hdb : (x == ("__debug__" : Str)) = false := by decide)
    (he : starEach [a, .Tuple es k2 p2] X.env = (false, eval a X.env) :: starEach [.Tuple es k2 p2] X.env := by rfl) (he2 : starEach [.Tuple es k2 p2] X.env = (false, eval (.Tuple es k2 p2) X.env) :: starEach [] X.env := by rfl)
    (hpl : (backTo pos (starEach [.Tuple es k2 p2] X.env)).any (·.1) = false := by rfl) : PE X (.Call (.Name x p) [a, .Tuple es k2 p2] [] pos) (tE c W (eOp1 (pIsiT us) ga)) :=
  imp_PE (pe_callB call_isiT hg hm hv (pa_cons ha (pa_cons (pe_tup (tyNames_pa ht)) pa_nil he2) he) hn hdb he hpl) fun σ H Q ⟨ρ, F, er, z⟩ => by
    refine tE_bind er z fun v ρ1 w F1 H1 st rep h1 => ?_
    obtain ⟨u, e, h1⟩ := lift_run h1
    obtain ⟨b, e1, rfl⟩ := Option.map_eq_some_iff.mp e
    have ht' : ∃ t, tyN v = some t := by
      cases us with
      | nil => exact absurd rfl hne
      | cons u us =>
        obtain ⟨k, e2, _⟩ := Option.bind_eq_some_iff.mp (show (isT u v).bind _ = some b from e1)
        obtain ⟨t, e3, _⟩ := Option.bind_eq_some_iff.mp e2
        exact ⟨t, e3⟩
    obtain ⟨t, ht'⟩ := ht'
    refine ⟨by rw [List.length_map]; exact hz, fun q hq => ?_⟩
    have gr := upd_growH (o := .tup (us.map V.ty)) st.2.sub hq
    refine ⟨w, q, us.map V.ty, .type t, us.map Value.type, b, rfl, upd_same, clsV_all us, .base ?_, anyT_ok ht' e1, h1 _ F1 _ (st.trans (gr.stpE st.2)) (.bl b)⟩
    rw [← hk]
    exact tyN_ok gr.sub rep ht'

/-- sep.join(xs) -/
def pJoin : PV → PV → Option PV
  | .str a, .lst _ xs => (strsOf xs).bind fun ys => if (ys.map (·.length)).sum + ys.length * a.length ≤ 16777216 then some (.str (Txt.join a ys)) else none
  | .str a, .tup xs => (strsOf xs).bind fun ys => if (ys.map (·.length)).sum + ys.length * a.length ≤ 16777216 then some (.str (Txt.join a ys)) else none
  | _, _ => none
def isStr : PV → Bool
  | .str _ => true
  | _ => false
/-- a text's method of one argument: the receiver is a text ahead of the argument -/
def eStrM (f : PV → PV → Option PV) (g h : GE) : GE := fun ρ => (g ρ).bind fun a => if isStr a.1 = true then (h a.2).bind fun b => lift (f a.1 b.1) b.2 else .stuck
def lStrM (f : PV → PV → Option (List PV)) (g h : GE) : GL := fun ρ => (g ρ).bind fun a => if isStr a.1 = true then (h a.2).bind fun b => lift' (f a.1 b.1) b.2 else .stuck
theorem ve_join {apos : Pos} (hk : c.K = X.K) (ha : PE X a (tE c W ga)) (hb : PE X b (tE c W gb)) (hs : starEach [b] X.env = [(false, eval b X.env)] := by rfl) (hbase : attributeBase a "join" X.env (eval a X.env) = eval a X.env := by rfl)
    (hline : (apos.endLine == pos.line) = true := by rfl) : PE X (.Call (.Attribute a "join" apos) [b] [] pos) (tE c W (eStrM pJoin ga gb)) :=
  imp_PE (pe_join ha hb hs hbase hline) fun σ H Q ⟨ρ, F, er, z⟩ => by
    refine tE_bind er z fun v ρ1 w F1 H1 st rep h1 => ?_
    cases rep with
    | str x =>
      refine ⟨⟨x, rfl⟩, tE_bind st.2 h1 fun u ρ2 w2 F2 H2 st2 rep2 h2 => ?_⟩
      obtain ⟨q, e, h2⟩ := lift_run h2
      rw [← hk]
      cases rep2 with
      | @lst p vs g xs h r _ =>
        obtain ⟨ys, e1, e2⟩ := Option.bind_eq_some_iff.mp (show (strsOf xs).bind _ = some q from e)
        have ew := strsOf_ok r e1
        subst ew
        split at e2
        · rename_i hz
          cases e2
          exact ⟨x, p, ys, rfl, rfl, .inl (SqL.of (st2.2.sub _ _ h)), hz, h2 _ F2 H2 (st.trans st2) (.str _)⟩
        · cases e2
      | @tup p vs xs h r =>
        obtain ⟨ys, e1, e2⟩ := Option.bind_eq_some_iff.mp (show (strsOf xs).bind _ = some q from e)
        have ew := strsOf_ok r e1
        subst ew
        split at e2
        · rename_i hz
          cases e2
          exact ⟨x, p, ys, rfl, rfl, .inr (SqT.of (st2.2.sub _ _ h)), hz, h2 _ F2 H2 (st.trans st2) (.str _)⟩
        · cases e2
      | _ => cases e
    | _ => exact h1.elim
/-- s.split(sep) -/
def lSplit : PV → PV → Option (List PV)
  | .str a, .str b => if (b.length == 0) = false ∧ a.length + 2 ≤ sizeLine then some ((Txt.split a b).map .str) else none
  | _, _ => none
theorem Reps.ofStrs {F : Hp} : ∀ ns : List Str, Reps c F (ns.map V.str) (ns.map PV.str)
  | [] => .nil
  | n :: ns => .cons (.str n) (Reps.ofStrs ns)
theorem vl_split {apos : Pos} (ha : PE X a (tE c W ga)) (hb : PE X b (tE c W gb)) (hs : starEach [b] X.env = [(false, eval b X.env)] := by rfl) (hbase : attributeBase a "split" X.env (eval a X.env) = eval a X.env := by rfl)
    (hline : (apos.endLine == pos.line) = true := by rfl) : PE X (.Call (.Attribute a "split" apos) [b] [] pos) (tL c W (lStrM lSplit ga gb)) :=
  imp_PE (pe_split ha hb hs hbase hline) fun σ H Q ⟨ρ, F, er, z⟩ => by
    refine tE_bind er z fun v ρ1 w F1 H1 st rep h1 => ?_
    cases rep with
    | str x =>
      refine ⟨⟨x, rfl⟩, tE_bind st.2 h1 fun u ρ2 w2 F2 H2 st2 rep2 h2 => ?_⟩
      obtain ⟨q, e, h2⟩ := lift'_run h2
      cases rep2 with
      | str y =>
        have e' : (if (y.length == 0) = false ∧ x.length + 2 ≤ sizeLine then some ((Txt.split x y).map PV.str) else none) = some q := e
        split at e'
        · rename_i hz
          cases e'
          exact ⟨x, y, rfl, rfl, hz.1, hz.2, fun p hp => laidL (st.trans st2) h2 hp (Reps.ofStrs _)⟩
        · cases e'
      | _ => cases e
    | _ => exact h1.elim
end

/-! ### defs: what they promise, their calls -/
abbrev GF := List SV → Wp XE' (PV × List SV)
def SpV (c : Cn) (n : Nat) (m : GF) : Sp := fun vs H Q E => vs.length = n ∧ ∃ F ss, ER c F H (vs.map some) ss ∧
  (m ss).run (OkE c (vs.map some) ss F H Q) (ErE c (fun cls d _ H' => E cls d H') (vs.map some) ss F H)
/-- a def of the module by its name -/
structure Fv (P : Program) (w : World) (K : PySem.W.Frag) (mg : Str → Option Value) (base : Heap) (c : Cn) (k : Nat) (x : Str) (n : Nat) (m : GF) : Prop where
  ex : ∃ (f : Addr) (fd : FuncData) (ps : List Str), ps.length = n ∧ mg x = some (.ref f) ∧ FnOk P w K mg base (L2.CX P w) k f fd ps (SpV c n m) ∧ PySem.W.keepIn K (.ref f) = true ∧ Binds K fd ps []
def fzs (xs : List PV) : List SV := xs.map .fz
theorem Reps.er {c : Cn} {F H : Hp} (s : Same F H) (mk : ∀ p, c.B p → ∃ o, H p = some o) : ∀ {vs : List V} {xs : List PV}, Reps c F vs xs → ER c F H (vs.map some) (fzs xs) := fun {vs xs} r => by
  refine ⟨s, by rw [List.length_map, fzs, List.length_map, r.length], fun i o t h1 h2 => ?_, fun i j t u p h1 h2 h3 h4 h5 h6 => ?_, mk⟩
  · unfold fzs at h2
    rw [List.getElem?_map] at h1 h2
    obtain ⟨x, e1, rfl⟩ := Option.map_eq_some_iff.mp h2
    obtain ⟨v, e2, rp⟩ := r.get e1
    rw [e2] at h1
    cases h1
    exact ⟨v, rfl, rp⟩
  · unfold fzs at h3
    rw [List.getElem?_map] at h3
    obtain ⟨x, e1, rfl⟩ := Option.map_eq_some_iff.mp h3
    cases h5
theorem fzs_own {σ : St} {xs : List PV} {p : Addr} : ¬ Own σ (fzs xs) p := fun ⟨i, s, h1, h2, h3⟩ => by
  unfold fzs at h2
  rw [List.getElem?_map] at h2
  obtain ⟨x, e1, rfl⟩ := Option.map_eq_some_iff.mp h2
  cases h3
section
variable {c : Cn} {X : Cx} {W : WX} {pos p : Pos} {x : Str}
def eCall (m : GF) (ga : GA) : GE := fun ρ => (ga ρ).bind fun a => ((m (fzs a.1)).mapE fun e => (e.1, a.2)).bind fun r => .ret (r.1, a.2)
theorem call_frozen {m : GF} {σ : St} {ρ ρ1 : Env'} {F H F1 H1 : Hp} {Q : VK} {vs : List V} {v : List PV} {n : Nat} {W : WX} (hl : vs.length = n) (st : StpE c σ ρ F H ρ1 F1 H1) (rep : Reps c F1 vs v)
    (h : (m (fzs v)).run (fun r => OkE c σ ρ F H Q (r.1, ρ1)) (fun e => ErE c W σ ρ1 F1 H1 (e.1, ρ1))) : SpV c n m vs H1 Q (WE W σ) := by
  refine ⟨hl, F1, fzs v, rep.er st.2.sub st.2.mrk, (m (fzs v)).mono (fun r q w F' H' st' rp => ?_) (fun e q d F' H' st' ex => ?_) h⟩
  · have gr : Grow F1 H1 F' H' := ⟨st'.1.ff, fun b o z => (st'.1.hh b o z fzs_own).1, st'.2.sub, fun b o z => (st'.1.hh b o z fzs_own).2⟩
    exact q w F' H' (st.trans (gr.stpE st.2)) rp
  · have gr : Grow F1 H1 F' H' := ⟨st'.1.ff, fun b o z => (st'.1.hh b o z fzs_own).1, st'.2.sub, fun b o z => (st'.1.hh b o z fzs_own).2⟩
    exact q d F' H' (gr.stpE st.2) ex
theorem ve_call {k j n : Nat} {m : GF} {e : Expr} {es : List Expr} {ga : GA} (F : Fv X.prog X.w X.K X.mg X.base c k x n m) (hr : Room j X.A) (hj : k ≤ j) (hg : Gl X x) (tk : Takes X W) (ha : PA X (e :: es) (tA c W n ga))
    (hdb : (x == ("__debug__" : Str)) = false := by decide) (he : starEach (e :: es) X.env = (false, eval e X.env) :: starEach es X.env := by rfl) (hpl : (backTo pos (starEach es X.env)).any (·.1) = false := by rfl) :
    PE X (.Call (.Name x p) (e :: es) [] pos) (tE c W (eCall m ga)) := by
  obtain ⟨f, fd, ps, hp, hm, G, kp, hb⟩ := F.ex
  exact imp_PE (pe_callS G (hr.mono hj) hg hm kp hb (fun σ => passAt tk σ) ha hdb he hpl) fun σ H Q ⟨ρ, F, er, z⟩ =>
    tA_bind er z fun v ρ1 vs F1 H1 st rep hl h1 => call_frozen hl st rep h1
end
end VL

set_option Elab.async false
set_option linter.all false
set_option maxRecDepth 100000
set_option maxHeartbeats 1000000
/-! VL, part 5: calls with a box, targets, what is walked, comprehensions. -/
namespace VL
open PySem PySem.Spec PyProof.Rows L2

/-! ### a call whose first argument is a slot of one's own -/
def ownAt (ρ : Env') (i : Nat) : Bool := match ρ[i]? with
  | some s => s.own
  | none => false
def boxCall (m : GF) (i : Nat) (v : List PV) (ρ : Env') : Wp XE' (PV × Env') := match ρ[i]? with
  | some s => if s.own = true then ((m (s :: fzs v)).mapE fun e => (e.1, ρ.set i (e.2.headD .un))).bind fun r => .ret (r.1, ρ.set i (r.2.headD .un)) else .stuck
  | none => .stuck
def eCallB (m : GF) (i : Nat) (ga : GA) : GE := fun ρ => if ownAt ρ i = true then (ga ρ).bind fun a => boxCall m i a.1 a.2 else .stuck
theorem ownAt_val {c : Cn} {F H : Hp} {σ : St} {ρ : Env'} {i : Nat} (er : ER c F H σ ρ) (h : ownAt ρ i = true) : ∃ u, σ[i]? = some (some u) := by
  unfold ownAt at h
  split at h
  · rename_i s hs
    have hi : i < σ.length := by rw [er.len]; exact (List.getElem?_eq_some_iff.mp hs).1
    have q := er.slot i σ[i] s (List.getElem?_eq_getElem hi) hs
    rw [List.getElem?_eq_getElem hi]
    cases s with
    | un => cases h
    | fz v => cases h
    | ow xs => obtain ⟨p, vs, e, _⟩ := q; exact ⟨_, by rw [e]⟩
    | bx n => obtain ⟨p, vs, e, _⟩ := q; exact ⟨_, by rw [e]⟩
  · cases h
section
variable {c : Cn} {σ : St} {ρ : Env'} {F H F' H' : Hp}
/-- a slot of one's own is handed on: the callee's view -/
theorem er_hand {i : Nat} {s : SV} {v : V} {vs : List V} {xs : List PV} (er : ER c F H σ ρ) (hi : ρ[i]? = some s) (ho : s.own = true) (hv : σ[i]? = some (some v)) (r : Reps c F vs xs) : ER c F H ((v :: vs).map some) (s :: fzs xs) := by
  have e0 := r.er er.sub er.mrk
  refine ⟨er.sub, by simp [fzs, r.length], fun j o t h1 h2 => ?_, fun j k t u p h1 h2 h3 h4 h5 h6 => ?_, er.mrk⟩
  · cases j with
    | zero => cases h1; cases h2; exact er.slot i _ _ hv hi
    | succ j => exact e0.slot j o t (by simpa using h1) (by simpa using h2)
  · cases j with
    | zero =>
      cases k with
      | zero => rfl
      | succ k => exact absurd ⟨k, u, by simpa using h2, by simpa using h4, h6⟩ (fzs_own (σ := vs.map some) (xs := xs) (p := p))
    | succ j => exact absurd ⟨j, t, by simpa using h1, by simpa using h3, h5⟩ (fzs_own (σ := vs.map some) (xs := xs) (p := p))
theorem own_hand {i : Nat} {s : SV} {v : V} {vs : List V} {xs : List PV} {p : Addr} (h : Own ((v :: vs).map some) (s :: fzs xs) p) : v = .ref p ∧ s.own = true := by
  obtain ⟨j, t, h1, h2, h3⟩ := h
  cases j with
  | zero => cases h1; cases h2; exact ⟨rfl, h3⟩
  | succ j => exact absurd ⟨j, t, by simpa using h1, by simpa using h2, h3⟩ (fzs_own (σ := vs.map some) (xs := xs) (p := p))
/-- .. and behind: what came back stands in the slot -/
theorem er_back {i : Nat} {s t : SV} {v : V} {vs : List V} {xs : List PV} {out : List SV} (er : ER c F H σ ρ) (hi : ρ[i]? = some s) (ho : s.own = true) (hv : σ[i]? = some (some v)) (r : Reps c F vs xs)
    (st : Stp F H (Own ((v :: vs).map some) (s :: fzs xs)) F' H' (Own ((v :: vs).map some) out)) (er' : ER c F' H' ((v :: vs).map some) out) (ht : out.headD .un = t) : StpE c σ ρ F H (ρ.set i t) F' H' := by
  have hil : i < ρ.length := (List.getElem?_eq_some_iff.mp hi).1
  have hh : ∀ p, v = .ref p → ∀ j u, σ[j]? = some (some (.ref p)) → ρ[j]? = some u → u.own = true → j = i := fun p e j u h1 h2 h3 => by
    subst e
    exact er.dis j i u s p h1 hv h2 hi h3 ho
  have ht0 : out[0]? = some t ∨ t = .un := by
    cases out with
    | nil => exact .inr ht.symm
    | cons a as => exact .inl (by simp at ht ⊢; exact ht)
  have own' : ∀ p, Own σ (ρ.set i t) p → (v = .ref p ∧ out[0]? = some t ∧ t.own = true) ∨ (Own σ ρ p ∧ v ≠ .ref p) := fun p ⟨j, u, h1, h2, h3⟩ => by
    by_cases hj : i = j
    · subst hj
      rw [List.getElem?_set_self hil] at h2
      cases h2
      rw [hv] at h1
      cases h1
      rcases ht0 with q | q
      · exact .inl ⟨rfl, q, h3⟩
      · subst q; cases h3
    · rw [List.getElem?_set_ne hj] at h2
      exact .inr ⟨⟨j, u, h1, h2, h3⟩, fun e => hj (hh p e j u h1 h2 h3).symm⟩
  refine ⟨⟨st.ff, fun p o h n => ?_, st.th, fun p h => ?_⟩, er'.sub, by rw [List.length_set]; exact er.len, fun j o u h1 h2 => ?_, fun j k u w p h1 h2 h3 h4 h5 h6 => ?_, er'.mrk⟩
  · exact st.hh p o h fun z => n (by
      obtain ⟨e, _⟩ := own_hand (i := i) z
      subst e
      exact ⟨i, s, hv, hi, ho⟩)
  · rcases own' p h with ⟨e, h1, h2⟩ | ⟨h, _⟩
    · subst e
      rcases st.ow p ⟨0, t, rfl, h1, h2⟩ with z | z
      · obtain ⟨e, _⟩ := own_hand (i := i) z
        exact .inl ⟨i, s, hv, hi, ho⟩
      · exact .inr z
    · exact .inl h
  · by_cases hj : i = j
    · subst hj
      rw [List.getElem?_set_self hil] at h2
      cases h2
      rw [hv] at h1
      cases h1
      rcases ht0 with q | q
      · exact er'.slot 0 _ _ rfl q
      · subst q; exact True.intro
    · rw [List.getElem?_set_ne hj] at h2
      have q := er.slot j o u h1 h2
      have keep : ∀ p vs', o = some (.ref p) → u.own = true → H p = some (.lst vs') → F p = none → H' p = some (.lst vs') ∧ F' p = none := fun p vs' e1 e2 h f => by
        subst e1
        obtain ⟨a, b⟩ := st.hh p _ h fun z => by
          obtain ⟨e, _⟩ := own_hand (i := i) z
          exact hj (hh p e j u h1 h2 e2).symm
        exact ⟨a, b f⟩
      cases u with
      | un => trivial
      | fz x => obtain ⟨w, e, rp⟩ := q; exact ⟨w, e, rp.mono st.ff⟩
      | ow ys => obtain ⟨p, ws, e, f, h, rp⟩ := q; obtain ⟨a, b⟩ := keep p ws e rfl h f; exact ⟨p, ws, e, b, a, rp.mono st.ff⟩
      | bx n => obtain ⟨p, ws, e, f, h, rp⟩ := q; obtain ⟨a, b⟩ := keep p ws e rfl h f; exact ⟨p, ws, e, b, a, rp⟩
  · by_cases hj : i = j
    · by_cases hk : i = k
      · exact hj ▸ hk
      · subst hj
        rw [List.getElem?_set_ne hk] at h4
        rw [hv] at h1
        cases h1
        exact (hh p rfl k w h2 h4 h6).symm
    · rw [List.getElem?_set_ne hj] at h3
      by_cases hk : i = k
      · subst hk
        rw [hv] at h2
        cases h2
        exact hh p rfl j u h1 h3 h5
      · rw [List.getElem?_set_ne hk] at h4
        exact er.dis j k u w p h1 h2 h3 h4 h5 h6
end
section
variable {c : Cn} {X : Cx} {W : WX} {pos p : Pos} {x : Str}
theorem call_box {m : GF} {σ : St} {ρ ρ1 : Env'} {F H F1 H1 : Hp} {Q : VK} {vs : List V} {v : List PV} {n i : Nat} {u : V} (hl : vs.length = n) (st : StpE c σ ρ F H ρ1 F1 H1) (rep : Reps c F1 vs v) (hu : σ[i]? = some (some u))
    (h : (boxCall m i v ρ1).run (OkE c σ ρ F H Q) (ErE c W σ ρ1 F1 H1)) : SpV c (n + 1) m (u :: vs) H1 Q (WE W σ) := by
  unfold boxCall at h
  cases hs : ρ1[i]? with
  | none => rw [hs] at h; exact h.elim
  | some s =>
    rw [hs] at h
    dsimp only at h
    by_cases ho : s.own = true
    · rw [if_pos ho] at h
      refine ⟨by rw [List.length_cons, hl], F1, s :: fzs v, er_hand st.2 hs ho hu rep, (m (s :: fzs v)).mono (fun r q w F' H' st' rp => ?_) (fun e q d F' H' st' ex => ?_) h⟩
      · exact q w F' H' (st.trans (er_back st.2 hs ho hu rep st'.1 st'.2 rfl)) rp
      · exact q d F' H' (er_back st.2 hs ho hu rep st'.1 st'.2 rfl) ex
    · rw [if_neg ho] at h
      exact h.elim
/-- f(box, ..), box in slot i -/
theorem ve_callB' {k j n i : Nat} {m : GF} {e : Expr} {es : List Expr} {ga : GA} (F : Fv X.prog X.w X.K X.mg X.base c k x (n + 1) m) (hr : Room j X.A) (hj : k ≤ j) (hg : Gl X x) (tk : Takes X W) (he0 : PE X e (tVar i)) (ha : PA X es (tA c W n ga))
    (hdb : (x == ("__debug__" : Str)) = false := by decide) (he : starEach (e :: es) X.env = (false, eval e X.env) :: starEach es X.env := by rfl) (hpl : (backTo pos (starEach es X.env)).any (·.1) = false := by rfl) :
    PE X (.Call (.Name x p) (e :: es) [] pos) (tE c W (eCallB m i ga)) := by
  obtain ⟨f, fd, ps, hp, hm, G, kp, hb⟩ := F.ex
  refine imp_PE (pe_callS G (hr.mono hj) hg hm kp hb (fun σ => passAt tk σ) (pa_cons he0 ha he) hdb he hpl) fun σ H Q ⟨ρ, F, er, z⟩ => ?_
  unfold eCallB at z
  by_cases ho : ownAt ρ i = true
  · rw [if_pos ho] at z
    obtain ⟨u, hu⟩ := ownAt_val er ho
    exact ⟨u, hu, tA_bind er z fun v ρ1 vs F1 H1 st rep hl h1 => call_box hl st rep hu h1⟩
  · rw [if_neg ho] at z
    exact z.elim

/-! ### calls with all arguments by keywords, in any order -/
theorem imp_PK {e : List Keyword} {t t' : TA} (h : PK X e t) (f : ∀ σ H Q, t' σ H Q → t σ H Q) : PK X e t' := ⟨fun pos pins s σ H Q I hw => h.run pos pins s σ H Q I (f σ H Q hw)⟩
theorem vk_nil : PK X [] (tA c W 0 aNil) := imp_PK pk_nil fun σ H Q ⟨ρ, F, er, z⟩ => z [] F H (StpE.refl er) .nil rfl
theorem vk_cons {a : Expr} {es : List Keyword} {n : Nat} {ga : GE} {gr : GA} {nm : Option Str} {kpos : Pos} (ha : PE X a (tE c W ga)) (hr : PK X es (tA c W n gr)) : PK X (⟨nm, a, kpos⟩ :: es) (tA c W (n + 1) (aCons ga gr)) :=
  imp_PK (pk_cons ha hr) fun σ H Q ⟨ρ, F, er, z⟩ => tE_bind er z fun v ρ1 w F1 H1 st rep h1 =>
    tA_bind st.2 h1 fun u ρ2 y F2 H2 st2 rep2 hl h2 => h2 (w :: y) F2 H2 (st.trans st2) (.cons (rep.mono st2.1.ff) rep2) (by rw [List.length_cons, hl])
end
/-- the i-th parameter is the (π i)-th keyword -/
def perm {α : Type} (d : α) (π : List Nat) (xs : List α) : List α := π.map fun i => xs.getD i d
structure FvK (P : Program) (w : World) (K : PySem.W.Frag) (mg : Str → Option Value) (base : Heap) (c : Cn) (k : Nat) (x : Str) (n : Nat) (m : GF) (ks : List Str) (π : List Nat) : Prop where
  ex : ∃ (f : Addr) (fd : FuncData) (ps : List Str), ps.length = n ∧ mg x = some (.ref f) ∧ FnOk P w K mg base (L2.CX P w) k f fd ps (SpV c n m) ∧ PySem.W.keepIn K (.ref f) = true ∧
    ∀ (s : Shared) (us : List Value), K.In s.heap → us.length = n → BindsTo s fd ⟨[], ks.zip us⟩ (ps.zip (perm .none π us))
def eCallK (m : GF) (π : List Nat) (ga : GA) : GE := fun ρ => (ga ρ).bind fun a => ((m (fzs (perm .non π a.1))).mapE fun e => (e.1, a.2)).bind fun r => .ret (r.1, a.2)
section
variable {c : Cn} {X : Cx} {W : WX} {pos p : Pos} {x : Str}
theorem Reps.perm {F : Hp} {vs : List V} {xs : List PV} (r : Reps c F vs xs) : ∀ π : List Nat, Reps c F (VL.perm .non π vs) (VL.perm .non π xs)
  | [] => .nil
  | i :: π => by
    refine .cons ?_ (Reps.perm r π)
    show Rep c F (vs.getD i .non) (xs.getD i .non)
    rw [List.getD_eq_getElem?_getD, List.getD_eq_getElem?_getD]
    cases e : xs[i]? with
    | some x =>
      obtain ⟨v, h1, h2⟩ := r.get e
      rw [h1]
      exact h2
    | none =>
      have h : vs[i]? = none := List.getElem?_eq_none (by rw [r.length]; exact List.getElem?_eq_none_iff.mp e)
      rw [h]
      exact .non
theorem vals_perm {vs : List V} {us : List Value} (r : Vals vs us) : ∀ π : List Nat, Vals (perm .non π vs) (perm .none π us)
  | [] => .nil
  | i :: π => by
    refine .cons ?_ (vals_perm r π)
    show L2.RelV (vs.getD i .non) (us.getD i .none)
    rw [List.getD_eq_getElem?_getD, List.getD_eq_getElem?_getD]
    cases e : vs[i]? with
    | some v =>
      obtain ⟨u, h1, h2⟩ := r.get e
      rw [h1]
      exact h2
    | none =>
      have h : us[i]? = none := r.none_of e
      rw [h]
      rfl
theorem ve_callK {k j n : Nat} {m : GF} {kws : List Keyword} {ga : GA} {ks : List Str} {π : List Nat} (F : FvK X.prog X.w X.K X.mg X.base c k x n m ks π) (hr : Room j X.A) (hj : k ≤ j) (hπ : π.length = n) (hg : Gl X x) (tk : Takes X W) (ha : PK X kws (tA c W n ga))
    (hall : (backToKw pos (keywordEach kws X.env)).all (·.1.isSome) = true := by rfl) (hks : (backToKw pos (keywordEach kws X.env)).filterMap (·.1) = ks := by rfl)
    (hpl : ((backTo pos (starEach [] X.env)).any (·.1) || (backToKw pos (keywordEach kws X.env)).any (·.1.isNone)) = false := by rfl)
    (hdb : (x == ("__debug__" : Str)) = false := by decide) : PE X (.Call (.Name x p) [] kws pos) (tE c W (eCallK m π ga)) := by
  obtain ⟨f, fd, ps, hp, hm, G, kp, hb⟩ := F.ex
  refine ⟨fun pins s σ H Q I ⟨ρ, F, er, z⟩ => ?_⟩
  refine wpAny_Call_Name_kw (ld_glob I hg hm ?_ hdb)
  refine PySem.W.callWith_KW0 (h₀ := X.base) I.ok.mod.kin kp hall (thn (ha.run pos pins s σ H _ I (tA_bind (R := fun vs H1 => vs.length = n ∧ SpV c n m (perm .non π vs) H1 Q (WE W σ)) er z fun v ρ1 vs F1 H1 st rep hl h1 =>
    ⟨hl, call_frozen (by unfold perm; rw [List.length_map]; exact hπ) st (rep.perm π) h1⟩)) fun us s1 ⟨vs, H1, I1, rv, hl, q⟩ => ⟨I1.kIn, ?_⟩) hpl
  rw [hks]
  have hu : us.length = n := by rw [← rv.length]; exact hl
  refine wpAny_call (codeAny_mono (G.run X.A X.stack s1 H1 ⟨[], ks.zip us⟩ (perm .none π us) (perm .non π vs) Q (WE W σ) (hr.mono hj) I1.env0 (hb s1 us I1.kIn hu) (vals_perm rv π) q) fun r s' hq => ?_)
  cases r with
  | error e => exact passAt tk σ pins H1 s1 e s' I1 hq
  | ok fl =>
    cases fl with
    | ret u => exact I1.after hq
    | next => exact False.elim hq
    | brk => exact False.elim hq
    | cont => exact False.elim hq
end

/-! ### targets -/
abbrev GG := PV → Env' → Option Env'
def gN (i : Nat) : GG := fun v ρ => some (ρ.set i (.fz v))
def setAll : List Nat → List PV → Env' → Option Env'
  | [], [], ρ => some ρ
  | i :: is, v :: vs, ρ => setAll is vs (ρ.set i (.fz v))
  | _, _, _ => none
def gT (is : List Nat) : GG := fun v ρ => match v with
  | .tup xs => if xs.length = is.length then setAll is xs ρ else none
  | _ => none
def wipeE (ρ : Env') : List Nat → Env'
  | [] => ρ
  | v :: vs => (wipeE ρ vs).set v .un
def backE (ρ ρ0 : Env') : List Nat → Env'
  | [] => ρ
  | v :: vs => (backE ρ ρ0 vs).set v (match ρ0[v]? with
    | some (.fz x) => .fz x
    | _ => .un)
/-- what a target does: only the slots is are written -/
def TgOk (c : Cn) (is : List Nat) (g : TG) (f : GG) : Prop := ∀ (F H : Hp) (σ : St) (ρ ρ' : Env') (x : V) (v : PV) (Q : St → Hp → Prop), ER c F H σ ρ → Rep c F x v → f v ρ = some ρ' →
  (∀ σ', ER c F H σ' ρ' → (∀ p, Own σ' ρ' p → Own σ ρ p) → wipe σ' is = wipe σ is → (∀ j, j ∉ is → σ'[j]? = σ[j]?) → Q σ' H) → g x σ H Q
section
variable {c : Cn} {F H : Hp} {σ : St} {ρ : Env'}
theorem ER.set (er : ER c F H σ ρ) {i : Nat} {w : V} {v : PV} (r : Rep c F w v) : ER c F H (σ.set i (some w)) (ρ.set i (.fz v)) := by
  refine ⟨er.sub, by rw [List.length_set, List.length_set]; exact er.len, fun j o s h1 h2 => ?_, fun j k s t p h1 h2 h3 h4 h5 h6 => ?_, er.mrk⟩
  · by_cases hj : i = j
    · subst hj
      have hi : i < ρ.length := by
        have := (List.getElem?_eq_some_iff.mp h2).1
        rwa [List.length_set] at this
      rw [List.getElem?_set_self hi] at h2
      rw [List.getElem?_set_self (by rw [er.len]; exact hi)] at h1
      cases h1
      cases h2
      exact ⟨w, rfl, r⟩
    · rw [List.getElem?_set_ne hj] at h1 h2
      exact er.slot j o s h1 h2
  · have ne : ∀ {j s}, (ρ.set i (.fz v))[j]? = some s → s.own = true → i ≠ j := fun {j s} h3 h5 hj => by
      subst hj
      have hi : i < ρ.length := by
        have := (List.getElem?_eq_some_iff.mp h3).1
        rwa [List.length_set] at this
      rw [List.getElem?_set_self hi] at h3
      cases h3
      cases h5
    have n1 := ne h3 h5
    have n2 := ne h4 h6
    rw [List.getElem?_set_ne n1] at h1 h3
    rw [List.getElem?_set_ne n2] at h2 h4
    exact er.dis j k s t p h1 h2 h3 h4 h5 h6
theorem own_set {i : Nat} {w : V} {v : PV} {p : Addr} (h : Own (σ.set i (some w)) (ρ.set i (.fz v)) p) : Own σ ρ p := by
  obtain ⟨j, s, h1, h2, h3⟩ := h
  by_cases hj : i = j
  · subst hj
    have hi : i < ρ.length := by
      have := (List.getElem?_eq_some_iff.mp h2).1
      rwa [List.length_set] at this
    rw [List.getElem?_set_self hi] at h2
    cases h2
    cases h3
  · rw [List.getElem?_set_ne hj] at h1 h2
    exact ⟨j, s, h1, h2, h3⟩
theorem wipe_get (σ : St) : ∀ (vs : List Nat) (j : Nat), (wipe σ vs)[j]? = if j ∈ vs then (if j < σ.length then some none else none) else σ[j]?
  | [], j => by simp [wipe]
  | v :: vs, j => by
    unfold wipe
    by_cases hj : v = j
    · subst hj
      by_cases hl : v < σ.length
      · rw [List.getElem?_set_self (by rw [wipe_length]; exact hl)]
        simp [hl]
      · rw [List.getElem?_eq_none (by rw [List.length_set, wipe_length]; omega)]
        simp [hl]
    · rw [List.getElem?_set_ne hj, wipe_get σ vs j]
      simp [Ne.symm hj]
theorem wipeE_length (ρ : Env') : ∀ vs : List Nat, (wipeE ρ vs).length = ρ.length
  | [] => rfl
  | v :: vs => by unfold wipeE; rw [List.length_set, wipeE_length ρ vs]
theorem wipeE_get (ρ : Env') : ∀ (vs : List Nat) (j : Nat), (wipeE ρ vs)[j]? = if j ∈ vs then (if j < ρ.length then some .un else none) else ρ[j]?
  | [], j => by simp [wipeE]
  | v :: vs, j => by
    unfold wipeE
    by_cases hj : v = j
    · subst hj
      by_cases hl : v < ρ.length
      · rw [List.getElem?_set_self (by rw [wipeE_length]; exact hl)]
        simp [hl]
      · rw [List.getElem?_eq_none (by rw [List.length_set, wipeE_length]; omega)]
        simp [hl]
    · rw [List.getElem?_set_ne hj, wipeE_get ρ vs j]
      simp [Ne.symm hj]
theorem backE_length (ρ ρ0 : Env') : ∀ vs : List Nat, (backE ρ ρ0 vs).length = ρ.length
  | [] => rfl
  | v :: vs => by unfold backE; rw [List.length_set, backE_length ρ ρ0 vs]
theorem backE_get (ρ ρ0 : Env') : ∀ (vs : List Nat) (j : Nat), (backE ρ ρ0 vs)[j]? = if j ∈ vs then (if j < ρ.length then some (match ρ0[j]? with
    | some (.fz x) => .fz x
    | _ => .un) else none) else ρ[j]?
  | [], j => by simp [backE]
  | v :: vs, j => by
    unfold backE
    by_cases hj : v = j
    · subst hj
      by_cases hl : v < ρ.length
      · rw [List.getElem?_set_self (by rw [backE_length]; exact hl)]
        simp [hl]
      · rw [List.getElem?_eq_none (by rw [List.length_set, backE_length]; omega)]
        simp [hl]
    · rw [List.getElem?_set_ne hj, backE_get ρ ρ0 vs j]
      simp [Ne.symm hj]
theorem wipe_eq {σ σ' : St} {vs : List Nat} (hl : σ'.length = σ.length) (h : ∀ j, j ∉ vs → σ'[j]? = σ[j]?) : wipe σ' vs = wipe σ vs := by
  apply List.ext_getElem?
  intro j
  rw [wipe_get, wipe_get, hl]
  by_cases hj : j ∈ vs
  · rw [if_pos hj, if_pos hj]
  · rw [if_neg hj, if_neg hj]
    exact h j hj
theorem ER.wipe (er : ER c F H σ ρ) (vs : List Nat) : ER c F H (L2.wipe σ vs) (wipeE ρ vs) := by
  refine ⟨er.sub, by rw [wipe_length, wipeE_length]; exact er.len, fun j o s h1 h2 => ?_, fun j k s t p h1 h2 h3 h4 h5 h6 => ?_, er.mrk⟩
  · rw [wipe_get] at h1
    rw [wipeE_get] at h2
    by_cases hj : j ∈ vs
    · rw [if_pos hj] at h2
      split at h2
      · cases h2; exact True.intro
      · cases h2
    · rw [if_neg hj] at h1 h2
      exact er.slot j o s h1 h2
  · have get : ∀ {j s}, (wipeE ρ vs)[j]? = some s → s.own = true → j ∉ vs ∧ ρ[j]? = some s := fun {j s} h3 h5 => by
      rw [wipeE_get] at h3
      by_cases hj : j ∈ vs
      · rw [if_pos hj] at h3
        split at h3
        · cases h3; cases h5
        · cases h3
      · rw [if_neg hj] at h3
        exact ⟨hj, h3⟩
    obtain ⟨n1, g3⟩ := get h3 h5
    obtain ⟨n2, g4⟩ := get h4 h6
    rw [wipe_get, if_neg n1] at h1
    rw [wipe_get, if_neg n2] at h2
    exact er.dis j k s t p h1 h2 g3 g4 h5 h6
theorem own_wipe {vs : List Nat} {p : Addr} (h : Own (L2.wipe σ vs) (wipeE ρ vs) p) : Own σ ρ p := by
  obtain ⟨j, s, h1, h2, h3⟩ := h
  rw [wipeE_get] at h2
  rw [wipe_get] at h1
  by_cases hj : j ∈ vs
  · rw [if_pos hj] at h2
    split at h2
    · cases h2; cases h3
    · cases h2
  · rw [if_neg hj] at h1 h2
    exact ⟨j, s, h1, h2, h3⟩
theorem tg_name (i : Nat) : TgOk c [i] (gName i) (gN i) := fun F H σ ρ ρ' x v Q er r e q => by
  cases e
  refine q (σ.set i (some x)) (er.set r) (fun p h => own_set h) (wipe_eq (by rw [List.length_set]) fun j hj => ?_) fun j hj => ?_
  · exact List.getElem?_set_ne (by simpa using Ne.symm (by simpa using hj))
  · exact List.getElem?_set_ne (by simpa using Ne.symm (by simpa using hj))
/-- several names, from the left -/
inductive TgsOk (c : Cn) : List Nat → TGs → Prop
  | nil : TgsOk c [] gNil
  | cons {i : Nat} {is : List Nat} {g : TGs} (r : TgsOk c is g) : TgsOk c (i :: is) (gCons (gName i) g)
theorem tgs_run {is : List Nat} {g : TGs} (h : TgsOk c is g) : ∀ {σ : St} {ρ ρ' : Env'} {ws : List V} {vs : List PV} {Q : St → Hp → Prop}, ER c F H σ ρ → Reps c F ws vs → setAll is vs ρ = some ρ' →
    (∀ σ', ER c F H σ' ρ' → (∀ p, Own σ' ρ' p → Own σ ρ p) → σ'.length = σ.length → (∀ j, j ∉ is → σ'[j]? = σ[j]?) → Q σ' H) → g ws σ H Q := by
  induction h with
  | nil =>
    intro σ ρ ρ' ws vs Q er r e q
    cases r with
    | nil => cases e; exact ⟨rfl, q σ er (fun _ h => h) rfl fun _ _ => rfl⟩
    | cons h r => cases e
  | @cons i is g r ih =>
    intro σ ρ ρ' ws vs Q er rp e q
    cases rp with
    | nil => cases e
    | @cons w v ws vs h rs =>
      refine ⟨w, ws, rfl, ih (er.set h) rs e fun σ' er' ow hl nj => q σ' er' (fun p h => own_set (ow p h)) (by rw [hl, List.length_set]) fun j hj => ?_⟩
      rw [nj j fun z => hj (List.mem_cons_of_mem _ z), List.getElem?_set_ne fun z : i = j => hj (by rw [← z]; exact List.mem_cons_self)]
theorem tg_tup {is : List Nat} {g : TGs} {K : PySem.W.Frag} (hk : c.K = K) (h : TgsOk c is g) : TgOk c is (gTup K is.length g) (gT is) := fun F H σ ρ ρ' x v Q er r e q => by
  cases r with
  | @tup a vs xs hF rs =>
    have e' : (if xs.length = is.length then setAll is xs ρ else none) = some ρ' := e
    by_cases hl : xs.length = is.length
    · rw [if_pos hl] at e'
      refine ⟨a, vs, rfl, SqT.of (er.sub _ _ hF), by rw [rs.length]; exact hl, tgs_run h er rs e' fun σ' er' ow hl nj => q σ' er' ow (wipe_eq hl nj) nj⟩
    · rw [if_neg hl] at e'
      cases e'
  | _ => cases e
end
end VL

set_option Elab.async false
set_option linter.all false
set_option maxRecDepth 100000
set_option maxHeartbeats 1000000
/-! VL, part 6: what is walked, comprehensions. -/
namespace VL
open PySem PySem.Spec PyProof.Rows L2

/-! ### what is walked: its items, from the frozen part F -/
structure Wk (c : Cn) (J : It) (F : Hp) (xs : List PV) : Prop where
  go : ∀ (i : Nat) (x : PV) (H : Hp), xs[i]? = some x → Same F H → J.go i H ∧ ∀ (w : V) (H' F1 : Hp), Same F F1 → Same F1 H → J.yld i H w H' → ∃ F', Grow F1 H F' H' ∧ Rep c F' w x
  stop : ∀ H, Same F H → J.stop xs.length H
abbrev GI := Env' → Wp XE' (List PV × Env')
def OkI (c : Cn) (σ : St) (ρ : Env') (F H : Hp) (R : It → Hp → Prop) : List PV × Env' → Prop := fun r => ∀ J F' H', StpE c σ ρ F H r.2 F' H' → Wk c J F' r.1 → R J H'
def tI (c : Cn) (W : WX) (g : GI) : TI := fun σ H R => ∃ ρ F, ER c F H σ ρ ∧ (g ρ).run (OkI c σ ρ F H R) (ErE c W σ ρ F H)
/-- the items of a list, a tuple, a text -/
def items : PV → Option (List PV)
  | .lst _ xs => some xs
  | .tup xs => some xs
  | .str x => some (x.cps.toList.map fun k => .str ⟨#[k]⟩)
  | .scr ns => some (ns.map .int)
  | _ => none
def iSeq (g : GE) : GI := fun ρ => (g ρ).bind fun a => lift' (items a.1) a.2
def iRange (n : PV) : Option (List PV) := match n with
  | .int n => if n.natAbs < 4611686018427387904 then some ((List.range n.toNat).map fun (k : Nat) => PV.int k) else none
  | _ => none
def iRng (g : GE) : GI := fun ρ => (g ρ).bind fun a => lift' (iRange a.1) a.2
def iRange2 (m n : PV) : Option (List PV) := match m, n with
  | .int m, .int n => if m.natAbs < 4611686018427387904 ∧ n.natAbs < 4611686018427387904 then some ((List.range (n - m).toNat).map fun (k : Nat) => PV.int (m + k)) else none
  | _, _ => none
def iRng2' (g h : GE) : GI := fun ρ => (g ρ).bind fun a => (h a.2).bind fun b => lift' (iRange2 a.1 b.1) b.2
section
variable {c : Cn}
theorem wk_list {F : Hp} {a : Addr} {vs : List V} {xs : List PV} (h : SqL c.K F a vs) (r : Reps c F vs xs) (uniq : ∀ (H : Hp) (ys : List V), Same F H → SqL c.K H a ys → True) : Wk c (Itl c.K a) F xs where
  go := fun i x H hx s => by
    obtain ⟨v, h1, h2⟩ := r.get hx
    exact ⟨⟨vs, v, s.seq h, h1⟩, fun w H' F1 s1 s2 ⟨e, q⟩ => by
      subst e
      have e2 := q vs (s.seq h)
      rw [h1] at e2
      cases e2
      exact ⟨F1, Grow.refl s2, h2.mono s1⟩⟩
  stop := fun H s => ⟨vs, s.seq h, by rw [r.length]; exact Nat.le_refl _⟩
theorem Same.sqT {K : PySem.W.Frag} {H H' : Hp} {a : Addr} {xs : List V} (e : Same H H') (h : SqT K H a xs) : SqT K H' a xs := by
  rcases h with (h | ⟨o, h⟩) | h
  · exact .inl (.inl (e _ _ h))
  · exact .inl (.inr ⟨o, e _ _ h⟩)
  · exact .inr h
theorem wk_tup {F : Hp} {a : Addr} {vs : List V} {xs : List PV} (h : SqT c.K F a vs) (r : Reps c F vs xs) : Wk c (Itt c.K a) F xs where
  go := fun i x H hx s => by
    obtain ⟨v, h1, h2⟩ := r.get hx
    exact ⟨⟨vs, v, Same.sqT s h, h1⟩, fun w H' F1 s1 s2 ⟨e, q⟩ => by
      subst e
      have e2 := q vs (Same.sqT s h)
      rw [h1] at e2
      cases e2
      exact ⟨F1, Grow.refl s2, h2.mono s1⟩⟩
  stop := fun H s => ⟨vs, Same.sqT s h, by rw [r.length]; exact Nat.le_refl _⟩
theorem wk_str {F : Hp} (x : Str) : Wk c (Its x) F (x.cps.toList.map fun k => PV.str ⟨#[k]⟩) where
  go := fun i y H hy s => by
    rw [List.getElem?_map] at hy
    obtain ⟨k, h1, rfl⟩ := Option.map_eq_some_iff.mp hy
    have h2 : x.cps[i]? = some k := by rw [← Array.getElem?_toList]; exact h1
    refine ⟨(Array.getElem?_eq_some_iff.mp h2).1, fun w H' F1 s1 s2 ⟨e, k', h3, e2⟩ => ?_⟩
    subst e
    rw [h2] at h3
    cases h3
    subst e2
    exact ⟨F1, Grow.refl s2, .str _⟩
  stop := fun H s => by
    show x.cps.size ≤ _
    rw [List.length_map, Array.length_toList]
    exact Nat.le_refl _
theorem wk_rng {F : Hp} (lo : Int) (n : Nat) : Wk c (Itr lo n) F ((List.range n).map fun (k : Nat) => PV.int (lo + k)) where
  go := fun i y H hy s => by
    rw [List.getElem?_map] at hy
    obtain ⟨k, h1, rfl⟩ := Option.map_eq_some_iff.mp hy
    obtain ⟨h2, h3⟩ := List.getElem?_eq_some_iff.mp h1
    rw [List.length_range] at h2
    rw [List.getElem_range] at h3
    subst h3
    refine ⟨h2, fun w H' F1 s1 s2 ⟨e, e2⟩ => ?_⟩
    subst e e2
    exact ⟨F1, Grow.refl s2, .int _⟩
  stop := fun H s => by
    show n ≤ _
    rw [List.length_map, List.length_range]
    exact Nat.le_refl _
end
section
variable {c : Cn} {X : Cx} {W : WX} {tg a b : Expr} {ga gb : GE} {pos p : Pos}
theorem imp_PI {iter : Expr} {w w' : TI} (h : PI X tg iter w) (f : ∀ σ H R, w' σ H R → w σ H R) : PI X tg iter w' := ⟨fun pins s σ H R I hw => h.run pins s σ H R I (f σ H R hw)⟩
/-- a list, a tuple or a text -/
def iAny (K : PySem.W.Frag) (tl : TE) : TI := fun σ H R => tl σ H fun x H1 => (∃ a xs, x = .ref a ∧ SqL K H1 a xs ∧ R (Itl K a) H1) ∨ ((∃ a xs, x = .ref a ∧ SqT K H1 a xs ∧ R (Itt K a) H1) ∨ ∃ y, x = .str y ∧ R (Its y) H1)
theorem pi_any {l : Expr} {tl : TE} (hl : PE X l tl) : PI X tg l (iAny X.K tl) := by
  refine ⟨fun pins s σ H R I h => ?_⟩
  refine thn (hl.run pins s σ H _ I h) fun v s1 z => ?_
  obtain ⟨x, H1, I1, r1, q1⟩ := z
  rcases q1 with ⟨a, xs, e, hq, q⟩ | ⟨a, xs, e, hq, q⟩ | ⟨y, e, q⟩
  · subst e
    cases r1
    obtain ⟨its, rv, pl, hz⟩ := I1.list hq
    exact wpAny_pyIter_list pl.isList (pi_one (tk := s1.toks) I1 _ (turn_list a _) ⟨_, Heap.get?_push_size _ rfl, rfl, rfl⟩ q)
  · subst e
    cases r1
    obtain ⟨its, rv, pl, hz⟩ := I1.tuple hq
    exact wpAny_pyIter_tuple (show s1.heap.IsTuple a its.toArray from pl) (pi_one (tk := s1.toks) I1 _ (turn_tuple a _) ⟨_, Heap.get?_push_size _ rfl, rfl, rfl⟩ q)
  · subst e
    obtain ⟨t, rfl⟩ := r1
    cases ha : y.cps.all (· < 128) with
    | false => exact wpAny_pyIter_wide ha (pi_one (tk := s1.toks) I1 _ (turn_str _ y t "str_iterator" (.inr rfl)) ⟨_, Heap.get?_push_size _ rfl, rfl, rfl⟩ q)
    | true => exact wpAny_pyIter_ascii ha (pi_one (tk := s1.toks) I1 _ (turn_str _ y t "str_ascii_iterator" (.inl rfl)) ⟨_, Heap.get?_push_size _ rfl, rfl, rfl⟩ q)
theorem vi_seq (hk : c.K = X.K) (ha : PE X a (tE c W ga)) : PI X tg a (tI c W (iSeq ga)) := imp_PI (pi_any ha) fun σ H R ⟨ρ, F, er, z⟩ => by
  refine tE_bind er z fun v ρ1 w F1 H1 st rep h1 => ?_
  obtain ⟨xs, e, h1⟩ := lift'_run h1
  rw [← hk]
  cases rep with
  | lst h r _ => cases e; exact .inl ⟨_, _, rfl, SqL.of (st.2.sub _ _ h), h1 _ F1 H1 st (wk_list (SqL.of h) r fun _ _ _ _ => trivial)⟩
  | scr h => cases e; exact .inl ⟨_, _, rfl, st.2.sub.seq h, h1 _ F1 H1 st (wk_list h (Reps.ofInts _) fun _ _ _ _ => trivial)⟩
  | tup h r => cases e; exact .inr (.inl ⟨_, _, rfl, SqT.of (st.2.sub _ _ h), h1 _ F1 H1 st (wk_tup (SqT.of h) r)⟩)
  | str x => cases e; exact .inr (.inr ⟨x, rfl, h1 _ F1 H1 st (wk_str x)⟩)
  | _ => cases e
theorem vi_rng (hg : Gl X "range") (hm : X.mg "range" = none) (ha : PE X a (tE c W ga)) (hs : starEach [a] X.env = [(false, eval a X.env)] := by rfl) : PI X tg (.Call (.Name "range" p) [a] [] pos) (tI c W (iRng ga)) :=
  imp_PI (pi_range1 hg hm (va_cons ha va_nil hs) hs) fun σ H R ⟨ρ, F, er, z⟩ => by
    refine tA_bind (k := fun a => lift' (iRange (a.1.headD .non)) a.2) (g := aCons ga aNil) er z fun v ρ1 ws F1 H1 st rep hl h1 => ?_
    obtain ⟨xs, e, h1⟩ := lift'_run h1
    cases rep with
    | nil => cases hl
    | @cons w v ws vs h r =>
      cases r with
      | cons _ _ => cases hl
      | nil =>
        cases h with
        | int n =>
          have e' : (if n.natAbs < 4611686018427387904 then some ((List.range n.toNat).map fun (k : Nat) => PV.int k) else none) = some xs := e
          by_cases hn' : n.natAbs < 4611686018427387904
          · rw [if_pos hn'] at e'
            cases e'
            refine ⟨n, rfl, by omega, by omega, h1 _ F1 H1 st ?_⟩
            have q := wk_rng (c := c) (F := F1) 0 n.toNat
            simpa using q
          · rw [if_neg hn'] at e'
            cases e'
        | _ => cases e
theorem vi_rng2 (hg : Gl X "range") (hm : X.mg "range" = none) (ha : PE X a (tE c W ga)) (hb : PE X b (tE c W gb)) (hs : starEach [a, b] X.env = [(false, eval a X.env), (false, eval b X.env)] := by rfl) (hs2 : starEach [b] X.env = [(false, eval b X.env)] := by rfl) :
    PI X tg (.Call (.Name "range" p) [a, b] [] pos) (tI c W (iRng2' ga gb)) :=
  imp_PI (pi_range2 hg hm (va_cons ha (va_cons hb va_nil hs2) (by rw [hs, hs2])) hs hs2) fun σ H R ⟨ρ, F, er, z⟩ => by
    refine tA_bind (k := fun a => lift' (iRange2 (a.1.headD .non) (a.1.tail.headD .non)) a.2) (g := aCons ga (aCons gb aNil)) er z fun v ρ1 ws F1 H1 st rep hl h1 => ?_
    obtain ⟨xs, e, h1⟩ := lift'_run h1
    cases rep with
    | nil => cases hl
    | @cons w v ws vs h r =>
      cases r with
      | nil => cases hl
      | @cons w2 v2 ws vs h2 r =>
        cases r with
        | cons _ _ => cases hl
        | nil =>
          cases h with
          | int m =>
            cases h2 with
            | int n =>
              have e' : (if m.natAbs < 4611686018427387904 ∧ n.natAbs < 4611686018427387904 then some ((List.range (n - m).toNat).map fun (k : Nat) => PV.int (m + k)) else none) = some xs := e
              by_cases hn' : m.natAbs < 4611686018427387904 ∧ n.natAbs < 4611686018427387904
              · rw [if_pos hn'] at e'
                cases e'
                exact ⟨m, n, rfl, by obtain ⟨a, b⟩ := hn'; exact ⟨by omega, by omega, by omega, by omega⟩, h1 _ F1 H1 st (wk_rng m (n - m).toNat)⟩
              · rw [if_neg hn'] at e'
                cases e'
            | _ => cases e
          | _ => cases h2 <;> cases e
end

/-! ### comprehensions -/
def noEx {α : Type} (m : Wp XE' α) : Wp XE' α := ⟨fun K _ => m.run K fun _ => False, fun h _ x => m.mono h (fun _ z => z) x⟩
@[simp] theorem noEx_ret {α : Type} (a : α) : noEx (.ret a) = .ret a := (rfl)
@[simp] theorem noEx_run {α : Type} (m : Wp XE' α) (K : α → Prop) (E : XE' → Prop) : (noEx m).run K E = m.run K fun _ => False := (rfl)
def lcLoop (is : List Nat) (f : GG) (gt : GT) (ge : GE) : List PV → Env' → Wp XE' (List PV × Env')
  | [], ρ => .ret ([], ρ)
  | x :: xs, ρ => match f x (wipeE ρ is) with
    | none => .stuck
    | some ρ1 => (gt ρ1).bind fun b => if b.1 = true then (ge b.2).bind fun y => (lcLoop is f gt ge xs y.2).bind fun r => .ret (y.1 :: r.1, r.2) else lcLoop is f gt ge xs b.2
def frozenAt (ρ : Env') (is : List Nat) : Bool := is.all fun i => !ownAt ρ i
def lLc (is : List Nat) (gi : GI) (f : GG) (gt : GT) (ge : GE) : GL := fun ρ => (gi ρ).bind fun a => if a.1.length ≤ sizeLine ∧ frozenAt a.2 is = true then (noEx (lcLoop is f gt ge a.1 a.2)).bind fun r => .ret (r.1, backE r.2 a.2 is) else .stuck
def W0 : WX := fun _ _ _ _ => False
theorem takes_W0 {X : Cx} : Takes X W0 := takes0
def tTs (c : Cn) (W : WX) (g : GT) : TT := tT c W g
def gYes : GT := fun ρ => .ret (true, ρ)
section
variable {c : Cn} {X : Cx} {W : WX}
theorem imp_PTs {e : List Expr} {t t' : TT} (h : PTs X e t) (f : ∀ σ H Q, t' σ H Q → t σ H Q) : PTs X e t' := ⟨fun pins s σ H Q I hw => h.run pins s σ H Q I (f σ H Q hw)⟩
theorem vts_nil : PTs X [] (tT c W gYes) := imp_PTs pts_nil fun σ H Q ⟨ρ, F, er, z⟩ => z F H (StpE.refl er)
theorem vts_one {e : Expr} {g : GT} (h : PT X e (tT c W g)) : PTs X [e] (tT c W g) := pts_one h
/-- one more that is excepted -/
theorem Stp.add {F H F' H' : Hp} {S S' : Addr → Prop} (D : Addr) (st : Stp F H S F' H' S') : Stp F H (fun p => S p ∨ p = D) F' H' (fun p => S' p ∨ p = D) :=
  ⟨st.ff, fun p o h n => st.hh p o h fun z => n (.inl z), st.th, fun p h => h.elim (fun z => (st.ow p z).imp .inl id) fun z => .inl (.inr z)⟩
theorem er_upd {F H : Hp} {σ : St} {ρ : Env'} {D : Addr} {o : HO} (er : ER c F H σ ρ) (hF : F D = none) (n : ¬ Own σ ρ D) : ER c F (upd H D o) σ ρ := by
  refine ⟨fun b u h => by rw [upd_ne (ne_of_none h hF)]; exact er.sub _ _ h, er.len, fun j o' s h1 h2 => ?_, er.dis, fun p b => by
    by_cases e : p = D
    · subst e; exact ⟨o, upd_same⟩
    · rw [upd_ne e]; exact er.mrk p b⟩
  have q := er.slot j o' s h1 h2
  have ne : ∀ p, o' = some (.ref p) → s.own = true → p ≠ D := fun p e1 e2 e3 => n (by subst e3; subst e1; exact ⟨j, s, h1, h2, e2⟩)
  cases s with
  | un => trivial
  | fz x => exact q
  | ow ys => obtain ⟨p, ws, e, f, h, rp⟩ := q; exact ⟨p, ws, e, f, by rw [upd_ne (ne p e rfl)]; exact h, rp⟩
  | bx n => obtain ⟨p, ws, e, f, h, rp⟩ := q; exact ⟨p, ws, e, f, by rw [upd_ne (ne p e rfl)]; exact h, rp⟩
/-- the slots of a block's own names are put back -/
theorem er_back' {F H F' H' : Hp} {σ : St} {ρ0 ρ : Env'} {is : List Nat} (er0 : ER c F H σ ρ0) (ff : Same F F') (er : ER c F' H' (wipe σ is) ρ) (fr : frozenAt ρ0 is = true) : ER c F' H' σ (backE ρ ρ0 is) ∧ ∀ p, Own σ (backE ρ ρ0 is) p → Own (wipe σ is) ρ p := by
  have get : ∀ {j s}, (backE ρ ρ0 is)[j]? = some s → s.own = true → j ∉ is ∧ ρ[j]? = some s := fun {j s} h3 h5 => by
    rw [backE_get] at h3
    by_cases hj : j ∈ is
    · rw [if_pos hj] at h3
      split at h3
      · cases h3
        split at h5 <;> cases h5
      · cases h3
    · rw [if_neg hj] at h3
      exact ⟨hj, h3⟩
  have nw : ∀ {j : Nat}, j ∉ is → (wipe σ is)[j]? = σ[j]? := fun {j} hj => by rw [wipe_get, if_neg hj]
  refine ⟨⟨er.sub, by rw [backE_length, ← er.len, wipe_length], fun j o s h1 h2 => ?_, fun j k s t p h1 h2 h3 h4 h5 h6 => ?_, er.mrk⟩, fun p ⟨j, s, h1, h2, h3⟩ => ?_⟩
  · rw [backE_get] at h2
    by_cases hj : j ∈ is
    · rw [if_pos hj] at h2
      split at h2
      · cases h2
        split
        · rename_i x hx
          obtain ⟨w, e, r⟩ := er0.slot j o _ h1 hx
          exact ⟨w, e, r.mono ff⟩
        · trivial
      · cases h2
    · rw [if_neg hj] at h2
      exact er.slot j o s (by rw [nw hj]; exact h1) h2
  · obtain ⟨n1, g3⟩ := get h3 h5
    obtain ⟨n2, g4⟩ := get h4 h6
    exact er.dis j k s t p (by rw [nw n1]; exact h1) (by rw [nw n2]; exact h2) g3 g4 h5 h6
  · obtain ⟨n1, g⟩ := get h2 h3
    exact ⟨j, s, by rw [nw n1]; exact h1, g, h3⟩
theorem wipe_idem (σ : St) (is : List Nat) : wipe (wipe σ is) is = wipe σ is := wipe_eq (wipe_length σ is) fun j hj => by rw [wipe_get, if_neg hj]
theorem backE_wipe (ρ ρ0 : Env') (is : List Nat) : backE (wipeE ρ is) ρ0 is = backE ρ ρ0 is := by
  apply List.ext_getElem?
  intro j
  rw [backE_get, backE_get, wipeE_length, wipeE_get]
  by_cases hj : j ∈ is
  · rw [if_pos hj, if_pos hj]
  · rw [if_neg hj, if_neg hj, if_neg hj]
theorem Stp.less {F H F' H' : Hp} {S S' S2 : Addr → Prop} (st : Stp F H S F' H' S') (h : ∀ p, S2 p → S' p) : Stp F H S F' H' S2 := ⟨st.ff, st.hh, st.th, fun p z => st.ow p (h p z)⟩
theorem Stp.more {F H F' H' : Hp} {S S' S2 : Addr → Prop} (st : Stp F H S F' H' S') (h : ∀ p, S p → S2 p) : Stp F H S2 F' H' S' := ⟨st.ff, fun p o e n => st.hh p o e fun z => n (h p z), st.th, fun p z => (st.ow p z).imp (h p) id⟩
theorem Stp.put {F H : Hp} {S : Addr → Prop} {D : Addr} {o o' : HO} (h : H D = some o) : Stp F H (fun p => S p ∨ p = D) F (upd H D o') (fun p => S p ∨ p = D) := by
  refine ⟨Same.refl F, fun p u e n => ⟨?_, fun z => z⟩, fun p u e => ?_, fun p z => .inl z⟩
  · rw [upd_ne fun z => n (.inr z)]; exact e
  · by_cases hp : p = D
    · subst hp; exact ⟨o', upd_same⟩
    · exact ⟨u, by rw [upd_ne hp]; exact e⟩
/-- where a comprehension stands behind i turns -/
structure LcAt (c : Cn) (is : List Nat) (f : GG) (gt : GT) (ge : GE) (σ : St) (ρ1 : Env') (F1 H1 : Hp) (D : Addr) (xs : List PV) (Z : List PV × Env' → Prop) (i : Nat) (H' : Hp) : Prop where
  ex : ∃ (acc : List V) (accP : List PV) (ρ' : Env') (F' : Hp), acc.length ≤ i ∧ H' D = some (.lst acc) ∧ F' D = none ∧ ¬ Own (wipe σ is) (wipeE ρ' is) D ∧
    Stp F1 H1 (Own (wipe σ is) (wipeE ρ1 is)) F' H' (fun p => Own (wipe σ is) (wipeE ρ' is) p ∨ p = D) ∧ ER c F' H' (wipe σ is) (wipeE ρ' is) ∧ Reps c F' acc accP ∧
    (lcLoop is f gt ge (xs.drop i) ρ').run (fun q => Z (accP ++ q.1, q.2)) (fun _ => False)
theorem tT_bind0 {σ : St} {ρ : Env'} {F H : Hp} {g : GT} {α : Type} {k : Bool × Env' → Wp XE' α} {R : Bool → Hp → Prop} {Z : α → Prop} (er : ER c F H σ ρ) (h : ((g ρ).bind k).run Z fun _ => False)
    (hk : ∀ v ρ1 F1 H1, StpE c σ ρ F H ρ1 F1 H1 → ((k (v, ρ1)).run Z fun _ => False) → R v H1) : tT c W0 g σ H R :=
  ⟨ρ, F, er, (g ρ).mono (fun r h1 F1 H1 st => hk r.1 r.2 F1 H1 st h1) (fun _ z => z.elim) h⟩
theorem tE_bind0 {σ : St} {ρ : Env'} {F H : Hp} {g : GE} {α : Type} {k : PV × Env' → Wp XE' α} {R : VK} {Z : α → Prop} (er : ER c F H σ ρ) (h : ((g ρ).bind k).run Z fun _ => False)
    (hk : ∀ v ρ1 w F1 H1, StpE c σ ρ F H ρ1 F1 H1 → Rep c F1 w v → ((k (v, ρ1)).run Z fun _ => False) → R w H1) : tE c W0 g σ H R :=
  ⟨ρ, F, er, (g ρ).mono (fun r h1 w F1 H1 st rep => hk r.1 r.2 w F1 H1 st rep h1) (fun _ z => z.elim) h⟩
theorem lc_turn {is : List Nat} {g : TG} {f : GG} {gt : GT} {ge : GE} {σ : St} {ρ1 : Env'} {F1 H1 : Hp} {D : Addr} {xs : List PV} {Z : List PV × Env' → Prop} {i : Nat} {H' : Hp} {J : It} (wk : Wk c J F1 xs) (hz : xs.length ≤ sizeLine) (hgf : TgOk c is g f)
    (h : LcAt c is f gt ge σ ρ1 F1 H1 D xs Z i H') (hi : i < xs.length) : J.go i H' ∧ ∀ x Hy, J.yld i H' x Hy → g x (wipe σ is) Hy fun σ2 H2 => wipe σ2 is = wipe σ is ∧ tT c W0 gt σ2 H2 fun b H3 =>
      if b = true then tE c W0 ge σ2 H3 fun y H4 => ∃ acc, H4 D = some (.lst acc) ∧ acc.length < sizeLine ∧ LcAt c is f gt ge σ ρ1 F1 H1 D xs Z (i + 1) (upd H4 D (.lst (acc ++ [y]))) else LcAt c is f gt ge σ ρ1 F1 H1 D xs Z (i + 1) H3 := by
  obtain ⟨acc, accP, ρ', F', hl, hD, hF, no, st, er, rep, run⟩ := h.ex
  have hx : xs[i]? = some xs[i] := List.getElem?_eq_getElem hi
  have same : Same F1 H' := st.ff.trans er.sub
  obtain ⟨go, yl⟩ := wk.go i xs[i] H' hx same
  refine ⟨go, fun x Hy y => ?_⟩
  obtain ⟨Fy, gr, rx⟩ := yl x Hy F' st.ff er.sub y
  have ery := er.grow gr
  rw [List.drop_eq_getElem_cons hi] at run
  unfold lcLoop at run
  cases hf : f xs[i] (wipeE ρ' is) with
  | none => rw [hf] at run; exact run.elim
  | some ρ2 =>
    rw [hf] at run
    dsimp only at run
    refine hgf Fy Hy (wipe σ is) (wipeE ρ' is) ρ2 x xs[i] _ ery rx hf fun σ2 er2 ow2 w2 nj => ?_
    have w3 : wipe σ2 is = wipe σ is := w2.trans (wipe_idem σ is)
    refine ⟨w3, ?_⟩
    have hDy : Hy D = some (.lst acc) := gr.hh _ _ hD
    have hFy : Fy D = none := gr.nf _ _ hD hF
    have no2 : ¬ Own σ2 ρ2 D := fun z => no (ow2 D z)
    have stC : Stp F1 H1 (Own (wipe σ is) (wipeE ρ1 is)) Fy Hy (fun p => Own σ2 ρ2 p ∨ p = D) := (st.trans (gr.stp _)).less fun p z => z.imp (ow2 p) id
    refine tT_bind0 er2 run fun b ρ3 F3 H3 st3 run3 => ?_
    have d3 := st3.1.hh D _ hDy no2
    have no3 : ¬ Own σ2 ρ3 D := fun z => (st3.1.ow D z).elim no2 fun q => by rw [hDy] at q; cases q
    have st3' := stC.trans (st3.1.add D)
    have noF : ∀ {ρ : Env'}, ¬ Own σ2 ρ D → ¬ Own (wipe σ is) (wipeE ρ is) D := fun {ρ} n z => n (own_wipe (vs := is) (by rw [w3]; exact z))
    cases b with
    | false =>
      simp only [Bool.false_eq_true, if_false] at run3 ⊢
      refine ⟨acc, accP, ρ3, F3, by omega, d3.1, d3.2 hFy, noF no3, st3'.less fun p z => z.imp (fun z => own_wipe (vs := is) (by rw [w3]; exact z)) id, by rw [← w3]; exact st3.2.wipe is, rep.mono (gr.ff.trans st3.1.ff), run3⟩
    | true =>
      simp only [if_true] at run3 ⊢
      refine tE_bind0 st3.2 run3 fun yv ρ4 y F4 H4 st4 r4 run4 => ?_
      have d4 := st4.1.hh D _ d3.1 no3
      have no4 : ¬ Own σ2 ρ4 D := fun z => (st4.1.ow D z).elim no3 fun q => by rw [d3.1] at q; cases q
      refine ⟨acc, d4.1, by omega, ?_⟩
      have hF4 : F4 D = none := d4.2 (d3.2 hFy)
      have er4 : ER c F4 H4 (wipe σ is) (wipeE ρ4 is) := by rw [← w3]; exact st4.2.wipe is
      refine ⟨acc ++ [y], accP ++ [yv], ρ4, F4, by rw [List.length_append]; simp; omega, upd_same, hF4, noF no4, ?_, er_upd er4 hF4 (noF no4), (rep.mono (gr.ff.trans (st3.1.ff.trans st4.1.ff))).append (.cons r4 .nil), ?_⟩
      · exact ((st3'.trans (st4.1.add D)).trans (Stp.put (S := Own σ2 ρ4) (o' := .lst (acc ++ [y])) d4.1)).less fun p z => z.imp (fun z => own_wipe (vs := is) (by rw [w3]; exact z)) id
      · refine Wp.mono _ (fun q z => ?_) (fun _ z => z) run4
        have z' : Z (accP ++ (yv :: q.1), q.2) := z
        rw [List.append_assoc]
        exact z'
theorem vl_lc {elt tg iter : Expr} {ifs : List Expr} {scope : Scope} {own : List (Str × Nat)} {is : List Nat} {pos : Pos} {gi : GI} {g : TG} {f : GG} {gt : GT} {ge : GE} (hc : X.calm = true) (hN : X.N.Nodup) (hi : PI X tg iter (tI c W gi)) (ok : BlkOk X.N X.env.scope scope own)
    (hg : ∀ (s : Shared) (H : Hp) (C : Addr) (cl : List (Str × Addr)) (fp : List Addr), PG (X.blk s H scope (compEnvC scope cl C X.env) fp) tg g) (hgf : TgOk c is g f)
    (ht : ∀ (s : Shared) (H : Hp) (C : Addr) (cl : List (Str × Addr)) (fp : List Addr), PTs (X.blk s H scope (compEnvC scope cl C X.env) fp) ifs (tT c W0 gt))
    (he : ∀ (s : Shared) (H : Hp) (C : Addr) (cl : List (Str × Addr)) (fp : List Addr), PE (X.blk s H scope (compEnvC scope cl C X.env) fp) elt (tE c W0 ge)) (his : own.map (·.2) = is := by rfl) (hs : ∀ x, foldedSetIterable iter X.env x = pure x := by intro _; rfl) :
    PE X (.ListComp elt [⟨tg, iter, ifs, 0⟩] scope pos) (tL c W (lLc is gi f gt ge)) := by
  subst his
  refine imp_PE (pe_lc hc hN hi ok hg ht he hs) fun σ H Q ⟨ρ, F, er, z⟩ => ?_
  generalize own.map (·.2) = is at *
  refine ⟨ρ, F, er, (gi ρ).mono (fun r h1 J F1 H1 st wk D hD => ?_) (fun _ q => q) z⟩
  dsimp only at h1
  by_cases hz : r.1.length ≤ sizeLine ∧ frozenAt r.2 is = true
  · rw [if_pos hz] at h1
    have h2 : (lcLoop is f gt ge r.1 r.2).run (fun q => OkL c σ ρ F H Q (q.1, backE q.2 r.2 is)) (fun _ => False) := h1
    have hFD : F1 D = none := st.2.sub.free hD
    have g0 := (upd_growH (o := .lst []) st.2.sub hD).stp (Own (wipe σ is) (wipeE r.2 is))
    have no0 : ¬ Own (wipe σ is) (wipeE r.2 is) D := not_own_new (st.2.wipe is) hD
    have start : LcAt c is f gt ge σ r.2 F1 H1 D r.1 (fun q => OkL c σ ρ F H Q (q.1, backE q.2 r.2 is)) 0 (upd H1 D (.lst [])) :=
      ⟨[], [], r.2, F1, Nat.le_refl _, upd_same, hFD, no0, ⟨g0.ff, g0.hh, g0.th, fun p q => q.elim .inl fun e => .inr (by rw [e]; exact hD)⟩, er_upd (st.2.wipe is) hFD no0, .nil, h2⟩
    refine ⟨fun i m H' => m = r.1.length - i ∧ i ≤ r.1.length ∧ LcAt c is f gt ge σ r.2 F1 H1 D r.1 (fun q => OkL c σ ρ F H Q (q.1, backE q.2 r.2 is)) i H', ⟨_, rfl, Nat.zero_le _, start⟩, fun i m H' hW => ?_⟩
    obtain ⟨rfl, hle, h⟩ := hW
    by_cases hi : i < r.1.length
    · obtain ⟨go, turn⟩ := lc_turn wk hz.1 hgf h hi
      exact .inr ⟨go, fun H' => LcAt c is f gt ge σ r.2 F1 H1 D r.1 (fun q => OkL c σ ρ F H Q (q.1, backE q.2 r.2 is)) (i + 1) H', fun H' n => ⟨r.1.length - (i + 1), by omega, rfl, hi, n⟩, turn⟩
    · have e : i = r.1.length := by omega
      subst e
      obtain ⟨acc, accP, ρ', F', hl, hDv, hF, no, st', er', rep, run⟩ := h.ex
      rw [List.drop_length] at run
      have q : OkL c σ ρ F H Q (accP ++ [], backE ρ' r.2 is) := run
      rw [List.append_nil] at q
      obtain ⟨er2, ow2⟩ := er_back' st.2 st'.ff er' hz.2
      rw [backE_wipe] at er2 ow2
      refine .inl ⟨wk.stop H' (st'.ff.trans er'.sub), q D acc F' H' ⟨st.1.trans ((st'.more fun p z => own_wipe z).less fun p z => .inl (ow2 p z)), er2⟩ ?_ hF hDv (fun z => no (ow2 D z)) rep⟩
      cases e : H D with
      | none => rfl
      | some o =>
        obtain ⟨o', e'⟩ := st.1.th D o e
        rw [hD] at e'
        cases e'
  · rw [if_neg hz] at h1
    exact h1.elim
end
end VL

set_option Elab.async false
set_option linter.all false
set_option maxRecDepth 100000
set_option maxHeartbeats 1000000
/-! VL, part 7: statements, defs. -/
namespace VL
open PySem PySem.Spec PyProof.Rows L2

inductive Out where
  | nx (ρ : Env') | bk (ρ : Env') | ct (ρ : Env') | rt (v : PV) (ρ : Env')
  /-- something tagged has been changed: only what is below the mark is known; on, or back with a bool -/
  | th (o : Option Bool) (ρ : Env')
abbrev GS := Env' → Wp XE' Out
section
variable (c : Cn) (pn : Nat → Bool)
/-- a statement's step: the pinned slots keep their values -/
def StpS (σ : St) (ρ : Env') (F H : Hp) (σ' : St) (ρ' : Env') (F' H' : Hp) : Prop := Stp F H (Own σ ρ) F' H' (Own σ' ρ') ∧ ER c F' H' σ' ρ' ∧ (∀ i, pn i = true → σ'[i]? = σ[i]?) ∧ σ'.length = σ.length
structure Thw (σ : St) (ρ : Env') (H : Hp) (σ' : St) (ρ' : Env') (H' : Hp) : Prop where
  hh : ∀ p o, H p = some o → ¬ Own σ ρ p → c.B p → H' p = some o
  th : ∀ p o, H p = some o → ∃ o', H' p = some o'
  ow : ∀ p, Own σ' ρ' p → Own σ ρ p ∨ H p = none
  er : ∃ F', ER c F' H' σ' ρ'
  pn : ∀ i, pn i = true → σ'[i]? = σ[i]?
  len : σ'.length = σ.length
def OkS (σ : St) (ρ : Env') (F H : Hp) (D : Ends) : Out → Prop
  | .nx ρ' => ∀ σ' F' H', StpS c pn σ ρ F H σ' ρ' F' H' → D.nx σ' H'
  | .bk ρ' => ∀ σ' F' H', StpS c pn σ ρ F H σ' ρ' F' H' → D.bk σ' H'
  | .ct ρ' => ∀ σ' F' H', StpS c pn σ ρ F H σ' ρ' F' H' → D.ct σ' H'
  | .rt v ρ' => ∀ w σ' F' H', StpS c pn σ ρ F H σ' ρ' F' H' → Rep c F' w v → D.rt w H'
  | .th o ρ' => ∀ σ' H', Thw c pn σ ρ H σ' ρ' H' → (o = none → D.nx σ' H') ∧ ∀ b, o = some b → D.rt (.bl b) H'
def ErS (W : WX) (σ : St) (ρ : Env') (F H : Hp) : XE' → Prop := fun e => ∀ d σ' F' H', StpS c pn σ ρ F H σ' e.2 F' H' → ExD c F' H' d e.1.fs → W (.ref (c.cA e.1.k)) d σ' H'
def tS (W : WX) (g : GS) : TS := fun D σ H => ∃ ρ F, ER c F H σ ρ ∧ (g ρ).run (OkS c pn σ ρ F H D) (ErS c pn W σ ρ F H)
end
section
variable {c : Cn} {pn : Nat → Bool} {σ σ1 σ2 : St} {ρ ρ1 ρ2 : Env'} {F H F1 H1 F2 H2 : Hp} {W : WX} {D : Ends}
theorem StpS.refl (e : ER c F H σ ρ) : StpS c pn σ ρ F H σ ρ F H := ⟨Stp.refl _ _ _, e, fun _ _ => rfl, rfl⟩
theorem StpS.trans (a : StpS c pn σ ρ F H σ1 ρ1 F1 H1) (b : StpS c pn σ1 ρ1 F1 H1 σ2 ρ2 F2 H2) : StpS c pn σ ρ F H σ2 ρ2 F2 H2 := ⟨a.1.trans b.1, b.2.1, fun i h => (b.2.2.1 i h).trans (a.2.2.1 i h), b.2.2.2.trans a.2.2.2⟩
theorem StpE.s (a : StpE c σ ρ F H ρ1 F1 H1) : StpS c pn σ ρ F H σ ρ1 F1 H1 := ⟨a.1, a.2, fun _ _ => rfl, rfl⟩
theorem Thw.step (t : Thw c pn σ1 ρ1 H1 σ2 ρ2 H2) (s : StpS c pn σ ρ F H σ1 ρ1 F1 H1) : Thw c pn σ ρ H σ2 ρ2 H2 where
  hh := fun p o h n b => t.hh p o (s.1.hh p o h n).1 (fun z => (s.1.ow p z).elim n fun q => by rw [h] at q; cases q) b
  th := fun p o h => by
    obtain ⟨o1, h1⟩ := s.1.th p o h
    exact t.th p o1 h1
  ow := fun p h => by
    rcases t.ow p h with h | h
    · exact s.1.ow p h
    · refine .inr ?_
      cases q : H p with
      | none => rfl
      | some o =>
        obtain ⟨o1, h1⟩ := s.1.th p o q
        rw [h1] at h
        cases h
  er := t.er
  pn := fun i h => (t.pn i h).trans (s.2.2.1 i h)
  len := t.len.trans s.2.2.2
theorem Thw.andS (t : Thw c pn σ ρ H σ1 ρ1 H1) (s : StpS c pn σ1 ρ1 F1 H1 σ2 ρ2 F2 H2) : Thw c pn σ ρ H σ2 ρ2 H2 where
  hh := fun p o h n b => (s.1.hh p o (t.hh p o h n b) fun z => (t.ow p z).elim n fun q => by rw [h] at q; cases q).1
  th := fun p o h => (t.th p o h).elim fun o1 h1 => s.1.th p o1 h1
  ow := fun p h => by
    rcases s.1.ow p h with h | h
    · exact t.ow p h
    · refine .inr ?_
      cases q : H p with
      | none => rfl
      | some o =>
        obtain ⟨o1, h1⟩ := t.th p o q
        rw [h1] at h
        cases h
  er := ⟨F2, s.2.1⟩
  pn := fun i h => (s.2.2.1 i h).trans (t.pn i h)
  len := s.2.2.2.trans t.len
theorem Thw.trans (t : Thw c pn σ ρ H σ1 ρ1 H1) (s : Thw c pn σ1 ρ1 H1 σ2 ρ2 H2) : Thw c pn σ ρ H σ2 ρ2 H2 where
  hh := fun p o h n b => s.hh p o (t.hh p o h n b) (fun z => (t.ow p z).elim n fun q => by rw [h] at q; cases q) b
  th := fun p o h => (t.th p o h).elim fun o1 h1 => s.th p o1 h1
  ow := fun p h => by
    rcases s.ow p h with h | h
    · exact t.ow p h
    · refine .inr ?_
      cases q : H p with
      | none => rfl
      | some o =>
        obtain ⟨o1, h1⟩ := t.th p o q
        rw [h1] at h
        cases h
  er := s.er
  pn := fun i h => (s.pn i h).trans (t.pn i h)
  len := s.len.trans t.len
/-- what stands behind a change -/
def thOut : Out → Wp XE' Out
  | .nx ρ => .ret (.th none ρ)
  | .rt (.bl b) ρ => .ret (.th (some b) ρ)
  | .th o ρ => .ret (.th o ρ)
  | _ => .stuck
theorem thOut_rt {v : PV} {E : XE' → Prop} (t : Thw c pn σ ρ H σ1 ρ1 H1) (q : (thOut (.rt v ρ2)).run (OkS c pn σ ρ F H D) E) : OkS c pn σ1 ρ1 F1 H1 D (.rt v ρ2) := by
  intro w σ2 F2 H2 s rp
  cases rp with
  | bl b => exact ((show OkS c pn σ ρ F H D (.th (some b) ρ2) from q) σ2 H2 (t.andS s)).2 b rfl
  | _ => exact q.elim
theorem OkS.step {o : Out} (s : StpS c pn σ ρ F H σ1 ρ1 F1 H1) (h : OkS c pn σ ρ F H D o) : OkS c pn σ1 ρ1 F1 H1 D o := by
  cases o with
  | nx ρ' => exact fun σ' F' H' q => h σ' F' H' (s.trans q)
  | bk ρ' => exact fun σ' F' H' q => h σ' F' H' (s.trans q)
  | ct ρ' => exact fun σ' F' H' q => h σ' F' H' (s.trans q)
  | rt v ρ' => exact fun w σ' F' H' q r => h w σ' F' H' (s.trans q) r
  | th o ρ' => exact fun σ' H' q => h σ' H' (q.step s)
theorem ErS.step {e : XE'} (s : StpS c pn σ ρ F H σ1 ρ1 F1 H1) (h : ErS c pn W σ ρ F H e) : ErS c pn W σ1 ρ1 F1 H1 e := fun d σ' F' H' q x => h d σ' F' H' (s.trans q) x
theorem ErS.e {e : XE'} (h : ErS c pn W σ ρ F H e) : ErE c W σ ρ F H e := fun d F' H' q x => h d σ F' H' q.s x
theorem run_stepS {m : Wp XE' Out} (s : StpS c pn σ ρ F H σ1 ρ1 F1 H1) (h : m.run (OkS c pn σ ρ F H D) (ErS c pn W σ ρ F H)) : m.run (OkS c pn σ1 ρ1 F1 H1 D) (ErS c pn W σ1 ρ1 F1 H1) := m.mono (fun _ => OkS.step s) (fun _ => ErS.step s) h
/-- the first part of a statement is an expression's -/
theorem tE_bindS {g : GE} {k : PV × Env' → Wp XE' Out} {R : VK} (er : ER c F H σ ρ) (h : ((g ρ).bind k).run (OkS c pn σ ρ F H D) (ErS c pn W σ ρ F H))
    (hk : ∀ v ρ1 w F1 H1, StpE c σ ρ F H ρ1 F1 H1 → Rep c F1 w v → (k (v, ρ1)).run (OkS c pn σ ρ1 F1 H1 D) (ErS c pn W σ ρ1 F1 H1) → R w H1) : tE c W g σ H R :=
  ⟨ρ, F, er, (g ρ).mono (fun r h1 w F1 H1 st rep => hk r.1 r.2 w F1 H1 st rep (run_stepS st.s h1)) (fun _ z => z.e) h⟩
theorem tT_bindS {g : GT} {k : Bool × Env' → Wp XE' Out} {R : Bool → Hp → Prop} (er : ER c F H σ ρ) (h : ((g ρ).bind k).run (OkS c pn σ ρ F H D) (ErS c pn W σ ρ F H))
    (hk : ∀ v ρ1 F1 H1, StpE c σ ρ F H ρ1 F1 H1 → (k (v, ρ1)).run (OkS c pn σ ρ1 F1 H1 D) (ErS c pn W σ ρ1 F1 H1) → R v H1) : tT c W g σ H R :=
  ⟨ρ, F, er, (g ρ).mono (fun r h1 F1 H1 st => hk r.1 r.2 F1 H1 st (run_stepS st.s h1)) (fun _ z => z.e) h⟩
theorem tL_bindS {g : GL} {k : List PV × Env' → Wp XE' Out} {R : VK} (er : ER c F H σ ρ) (h : ((g ρ).bind k).run (OkS c pn σ ρ F H D) (ErS c pn W σ ρ F H))
    (hk : ∀ v ρ1 p vs F1 H1, StpE c σ ρ F H ρ1 F1 H1 → H p = none → F1 p = none → H1 p = some (.lst vs) → ¬ Own σ ρ1 p → Reps c F1 vs v → (k (v, ρ1)).run (OkS c pn σ ρ1 F1 H1 D) (ErS c pn W σ ρ1 F1 H1) → R (.ref p) H1) : tL c W g σ H R :=
  ⟨ρ, F, er, (g ρ).mono (fun r h1 p vs F1 H1 st a b d e f => hk r.1 r.2 p vs F1 H1 st a b d e f (run_stepS st.s h1)) (fun _ z => z.e) h⟩
theorem tI_bindS {g : GI} {k : List PV × Env' → Wp XE' Out} {R : It → Hp → Prop} (er : ER c F H σ ρ) (h : ((g ρ).bind k).run (OkS c pn σ ρ F H D) (ErS c pn W σ ρ F H))
    (hk : ∀ v ρ1 J F1 H1, StpE c σ ρ F H ρ1 F1 H1 → Wk c J F1 v → (k (v, ρ1)).run (OkS c pn σ ρ1 F1 H1 D) (ErS c pn W σ ρ1 F1 H1) → R J H1) : tI c W g σ H R :=
  ⟨ρ, F, er, (g ρ).mono (fun r h1 J F1 H1 st wk => hk r.1 r.2 J F1 H1 st wk (run_stepS st.s h1)) (fun _ z => z.e) h⟩
end

/-! ### blocks -/
def noE {ε ε' α : Type} (m : Wp ε α) : Wp ε' α := ⟨fun K _ => m.run K fun _ => False, fun h _ x => m.mono h (fun _ z => z) x⟩
def sSeq (g h : GS) : GS := fun ρ => (g ρ).bind fun o => match o with
  | .nx ρ1 => h ρ1
  | .th none ρ1 => (noE (h ρ1)).bind thOut
  | o => .ret o
def sNil : GS := fun ρ => .ret (.nx ρ)
def sSet (i : Nat) (g : GE) : GS := fun ρ => (g ρ).bind fun a => .ret (.nx (a.2.set i (.fz a.1)))
def sOwn (i : Nat) (g : GL) : GS := fun ρ => (g ρ).bind fun a => .ret (.nx (a.2.set i (.ow a.1)))
def sDrop (g : GE) : GS := fun ρ => (g ρ).bind fun a => .ret (.nx a.2)
def sRet (g : GE) : GS := fun ρ => (g ρ).bind fun a => .ret (.rt a.1 a.2)
def sIf (t : GT) (g h : GS) : GS := fun ρ => (t ρ).bind fun b => if b.1 = true then g b.2 else h b.2
def sPub (i : Nat) (g : GS) : GS := fun ρ => match ρ[i]? with
  | some (.ow xs) => g (ρ.set i (.fz (.lst none xs)))
  | _ => .stuck
def sBrk : GS := fun ρ => .ret (.bk ρ)
def sCnt : GS := fun ρ => .ret (.ct ρ)
/-- a, b = .. -/
def sTgt (f : GG) (g : GE) : GS := fun ρ => (g ρ).bind fun a => match f a.1 a.2 with
  | some ρ' => .ret (.nx ρ')
  | none => .stuck
section
variable {c : Cn} {X : Cx} {W : WX} {pn : Nat → Bool} {st : Stmt} {rest : List Stmt} {g h : GS} {e a b : Expr} {ge : GE} {gt : GT} {gl : GL} {pos : Pos}
theorem vss_nil : PSs X [] (tS c pn W sNil) := imp_PSs pss_nil fun D σ H ⟨ρ, F, er, z⟩ => z σ F H (StpS.refl er)
theorem vss_cons (h1 : PS X st (tS c pn W g)) (h2 : PSs X rest (tS c pn W h)) : PSs X (st :: rest) (tS c pn W (sSeq g h)) := imp_PSs (pss_cons h1 h2) fun D σ H ⟨ρ, F, er, z⟩ =>
  ⟨ρ, F, er, (g ρ).mono (fun o q => by
    cases o with
    | nx ρ1 => exact fun σ' F' H' s => ⟨ρ1, F', s.2.1, run_stepS s q⟩
    | bk ρ1 => exact q
    | ct ρ1 => exact q
    | rt v ρ1 => exact q
    | th o ρ1 => cases o with
      | none =>
        refine fun σ' H' t => ⟨fun _ => ?_, fun b z => nomatch z⟩
        obtain ⟨F1, er1⟩ := t.er
        refine ⟨ρ1, F1, er1, (h ρ1).mono (fun o q => ?_) (fun _ q => q.elim) q⟩
        cases o with
        | nx ρ2 => exact fun σ2 F2 H2 s => ((show OkS c pn σ ρ F H D (.th none ρ2) from q) σ2 H2 (t.andS s)).1 rfl
        | bk ρ2 => exact q.elim
        | ct ρ2 => exact q.elim
        | rt v ρ2 => exact thOut_rt t q
        | th o ρ2 => exact fun σ2 H2 t2 => (show OkS c pn σ ρ F H D (.th o ρ2) from q) σ2 H2 (t.trans t2)
      | some b => exact fun σ' H' t => ⟨(fun z => nomatch z), (show OkS c pn σ ρ F H D (.th (some b) ρ1) from q) σ' H' t |>.2⟩) (fun _ q => q) z⟩
theorem vss_one (h1 : PS X st (tS c pn W g)) : PSs X [st] (tS c pn W g) := pss_one h1
theorem vs_set {i : Nat} {x : Str} {pos' : Pos} (hN : X.N.Nodup) (hi : X.N[i]? = some x) (hx : Loc X.env.scope x) (hp : pn i = false) (he : PE X e (tE c W ge)) (hs : swapsWith e (some (.Name x pos')) pos.line X.env = pure false := by rfl)
    (hf : X.fn x = true ∨ X.env.scope.names.lookup x = some .local := by first | exact .inl rfl | exact .inr rfl | assumption) : PS X (.Assign [.Name x pos'] e pos) (tS c pn W (sSet i ge)) :=
  imp_PS (ps_set hN hi hx he hs hf) fun D σ H ⟨ρ, F, er, z⟩ => tE_bindS er z fun v ρ1 w F1 H1 st rep h1 => h1 _ F1 H1
    ⟨(Stp.refl F1 H1 _).less fun p q => own_set q, st.2.set rep, (fun j hj => List.getElem?_set_ne (fun q => by subst q; rw [hp] at hj; cases hj)), List.length_set⟩
theorem er_own {F H : Hp} {σ : St} {ρ : Env'} {i : Nat} {p : Addr} {vs : List V} {xs : List PV} (er : ER c F H σ ρ) (hF : F p = none) (hH : H p = some (.lst vs)) (no : ¬ Own σ ρ p) (r : Reps c F vs xs) :
    ER c F H (σ.set i (some (.ref p))) (ρ.set i (.ow xs)) ∧ ∀ q, Own (σ.set i (some (.ref p))) (ρ.set i (.ow xs)) q → Own σ ρ q ∨ q = p := by
  have len : ∀ {j : Nat} {s : SV} {y : SV}, (ρ.set i y)[i]? = some s → i < ρ.length := fun {j s y} h => by
    have := (List.getElem?_eq_some_iff.mp h).1
    rwa [List.length_set] at this
  have at_ : ∀ {j s q}, (σ.set i (some (.ref p)))[j]? = some (some (.ref q)) → (ρ.set i (.ow xs))[j]? = some s → s.own = true → (j = i ∧ q = p) ∨ (j ≠ i ∧ σ[j]? = some (some (.ref q)) ∧ ρ[j]? = some s) := fun {j s q} h1 h2 h3 => by
    by_cases hj : i = j
    · subst hj
      have hl := len (j := i) h2
      rw [List.getElem?_set_self (by rw [er.len]; exact hl)] at h1
      cases h1
      exact .inl ⟨rfl, rfl⟩
    · rw [List.getElem?_set_ne hj] at h1 h2
      exact .inr ⟨Ne.symm hj, h1, h2⟩
  refine ⟨⟨er.sub, by rw [List.length_set, List.length_set]; exact er.len, fun j o s h1 h2 => ?_, fun j k s t q h1 h2 h3 h4 h5 h6 => ?_, er.mrk⟩, fun q ⟨j, s, h1, h2, h3⟩ => ?_⟩
  · by_cases hj : i = j
    · subst hj
      have hl := len (j := i) h2
      rw [List.getElem?_set_self hl] at h2
      rw [List.getElem?_set_self (by rw [er.len]; exact hl)] at h1
      cases h1
      cases h2
      exact ⟨p, vs, rfl, hF, hH, r⟩
    · rw [List.getElem?_set_ne hj] at h1 h2
      exact er.slot j o s h1 h2
  · rcases at_ h1 h3 h5 with ⟨e1, e2⟩ | ⟨n1, a1, b1⟩
    · rcases at_ h2 h4 h6 with ⟨e3, e4⟩ | ⟨n2, a2, b2⟩
      · exact e1.trans e3.symm
      · subst e2
        exact absurd ⟨k, t, a2, b2, h6⟩ no
    · rcases at_ h2 h4 h6 with ⟨e3, e4⟩ | ⟨n2, a2, b2⟩
      · subst e4
        exact absurd ⟨j, s, a1, b1, h5⟩ no
      · exact er.dis j k s t q a1 a2 b1 b2 h5 h6
  · rcases at_ h1 h2 h3 with ⟨e1, e2⟩ | ⟨n1, a1, b1⟩
    · exact .inr e2
    · exact .inl ⟨j, s, a1, b1, h3⟩
/-- x = a new list that stays one's own -/
theorem vs_own {i : Nat} {x : Str} {pos' : Pos} (hN : X.N.Nodup) (hi : X.N[i]? = some x) (hx : Loc X.env.scope x) (hp : pn i = false) (he : PE X e (tL c W gl)) (hs : swapsWith e (some (.Name x pos')) pos.line X.env = pure false := by rfl)
    (hf : X.fn x = true ∨ X.env.scope.names.lookup x = some .local := by first | exact .inl rfl | exact .inr rfl | assumption) : PS X (.Assign [.Name x pos'] e pos) (tS c pn W (sOwn i gl)) :=
  imp_PS (ps_set hN hi hx he hs hf) fun D σ H ⟨ρ, F, er, z⟩ => ⟨ρ, F, er, (gl ρ).mono (fun r h1 p vs F1 H1 st hn hF hH no rep => by
    obtain ⟨er2, ow2⟩ := er_own (i := i) st.2 hF hH no rep
    refine h1 _ F1 H1 ⟨⟨st.1.ff, st.1.hh, st.1.th, fun q z => ?_⟩, er2, (fun j hj => List.getElem?_set_ne (fun q => by subst q; rw [hp] at hj; cases hj)), List.length_set⟩
    rcases ow2 q z with z | z
    · exact st.1.ow q z
    · subst z; exact .inr hn) (fun _ q => q.e) z⟩
theorem vs_expr (he : PE X e (tE c W ge)) (hs : swapsWith e none pos.line X.env = pure false := by rfl) : PS X (.Expr e pos) (tS c pn W (sDrop ge)) :=
  imp_PS (ps_expr he hs) fun D σ H ⟨ρ, F, er, z⟩ => tE_bindS er z fun v ρ1 w F1 H1 st rep h1 => h1 σ F1 H1 (StpS.refl st.2)
theorem vs_ret (he : PE X e (tE c W ge)) : PS X (.Return (some e) pos) (tS c pn W (sRet ge)) :=
  imp_PS (ps_ret he) fun D σ H ⟨ρ, F, er, z⟩ => tE_bindS er z fun v ρ1 w F1 H1 st rep h1 => h1 w σ F1 H1 (StpS.refl st.2) rep
theorem vs_retN : PS X (.Return none pos) (tS c pn W (sRet (eC .non))) := imp_PS ps_retN fun D σ H ⟨ρ, F, er, z⟩ => z .non σ F H (StpS.refl er) .non
theorem vs_if {p q : List Stmt} (ht : PT X a (tT c W gt)) (h1 : PSs X p (tS c pn W g)) (h2 : PSs X q (tS c pn W h)) : PS X (.If a p q pos) (tS c pn W (sIf gt g h)) :=
  imp_PS (ps_if ht h1 h2) fun D σ H ⟨ρ, F, er, z⟩ => tT_bindS er z fun b ρ1 F1 H1 st q => by
    cases b with
    | true => exact ⟨ρ1, F1, st.2, q⟩
    | false => exact ⟨ρ1, F1, st.2, q⟩
theorem vs_pass : PS X (.Pass pos) (tS c pn W sNil) := imp_PS ps_pass fun D σ H ⟨ρ, F, er, z⟩ => z σ F H (StpS.refl er)
theorem vs_break : PS X (.Break pos) (tS c pn W sBrk) := imp_PS ps_break fun D σ H ⟨ρ, F, er, z⟩ => z σ F H (StpS.refl er)
theorem vs_continue : PS X (.Continue pos) (tS c pn W sCnt) := imp_PS ps_continue fun D σ H ⟨ρ, F, er, z⟩ => z σ F H (StpS.refl er)
/-- a list of one's own is frozen from here on -/
theorem pub_er {F H : Hp} {σ : St} {ρ : Env'} {i : Nat} {xs : List PV} (er : ER c F H σ ρ) (hi : ρ[i]? = some (.ow xs)) : ∃ F', StpS c pn σ ρ F H σ (ρ.set i (.fz (.lst none xs))) F' H := by
  obtain ⟨p, vs, h1, h2, h3, r⟩ := er.ow hi
  have hil : i < ρ.length := (List.getElem?_eq_some_iff.mp hi).1
  have f := freeze_grow er.sub h2 h3
  have own' : ∀ q, Own σ (ρ.set i (.fz (.lst none xs))) q → Own σ ρ q ∧ q ≠ p := fun q ⟨j, s, a, b, d⟩ => by
    by_cases hj : i = j
    · subst hj
      rw [List.getElem?_set_self hil] at b
      cases b
      cases d
    · rw [List.getElem?_set_ne hj] at b
      refine ⟨⟨j, s, a, b, d⟩, fun e => ?_⟩
      subst e
      exact hj (er.dis i j (.ow xs) s q h1 a hi b rfl d)
  refine ⟨upd F p (.lst vs), ⟨f.1, fun q o e n => ⟨e, fun z => ?_⟩, fun q o e => ⟨o, e⟩, fun q z => .inl (own' q z).1⟩, ⟨f.2, by rw [List.length_set]; exact er.len, fun j o s a b => ?_, fun j k s t q a b a' b' d d' => ?_, er.mrk⟩, fun _ _ => rfl, rfl⟩
  · by_cases hq : q = p
    · subst hq
      exact absurd ⟨i, _, h1, hi, rfl⟩ n
    · rw [upd_ne hq]; exact z
  · by_cases hj : i = j
    · subst hj
      rw [List.getElem?_set_self hil] at b
      rw [h1] at a
      cases a
      cases b
      exact ⟨.ref p, rfl, .lst upd_same (r.mono f.1) fun _ z => nomatch z⟩
    · rw [List.getElem?_set_ne hj] at b
      refine freeze_slot h2 (fun q e1 e2 e3 => ?_) (er.slot j o s a b)
      subst e3
      subst e1
      exact hj (er.dis i j (.ow xs) s q h1 a hi b rfl e2)
  · have ne : ∀ {j s}, (ρ.set i (.fz (.lst none xs)))[j]? = some s → s.own = true → i ≠ j := fun {j s} b d hj => by
      subst hj
      rw [List.getElem?_set_self hil] at b
      cases b
      cases d
    have n1 := ne a' d
    have n2 := ne b' d'
    rw [List.getElem?_set_ne n1] at a'
    rw [List.getElem?_set_ne n2] at b'
    exact er.dis j k s t q a b a' b' d d'
theorem vss_pub {i : Nat} (h1 : PSs X rest (tS c pn W g)) : PSs X rest (tS c pn W (sPub i g)) := imp_PSs h1 fun D σ H ⟨ρ, F, er, z⟩ => by
  unfold sPub at z
  split at z
  · rename_i xs hi
    obtain ⟨F', s⟩ := pub_er (pn := pn) er hi
    exact ⟨_, F', s.2.1, run_stepS s z⟩
  · exact z.elim
theorem len_wipe {σ σ' : St} {is : List Nat} (h : wipe σ' is = wipe σ is) : σ'.length = σ.length := by
  have e := congrArg List.length h
  rwa [wipe_length, wipe_length] at e
/-- a target of any form -/
theorem vs_tgt {tg : Expr} {is : List Nat} {tgr : TG} {f : GG} (he : PE X e (tE c W ge)) (hg : PG X tg tgr) (hgf : TgOk c is tgr f) (hp : ∀ i, i ∈ is → pn i = false) (hs : swapsWithSole [tg] e pos.line X.env = pure false := by rfl) (hw : swappedStores [tg] e X.env = pure none := by rfl)
    (h1 : (assignEach [tg] X.env).map (·.2) = [assign tg X.env] := by rfl) : PS X (.Assign [tg] e pos) (tS c pn W (sTgt f ge)) :=
  imp_PS (ps_asg he hg hs hw h1) fun D σ H ⟨ρ, F, er, z⟩ => tE_bindS er z fun v ρ1 w F1 H1 st rep h1 => by
    dsimp only at h1
    cases hf : f v ρ1 with
    | none => rw [hf] at h1; exact h1.elim
    | some ρ' =>
      rw [hf] at h1
      exact hgf F1 H1 σ ρ1 ρ' w v _ st.2 rep hf fun σ' er' ow wp nj => h1 σ' F1 H1 ⟨(Stp.refl F1 H1 _).less ow, er', (fun j hj => nj j (fun z => by rw [hp j z] at hj; cases hj)), len_wipe wp⟩
/-- a, b = x, y -/
def sPar (i j : Nat) (g h : GE) : GS := fun ρ => (g ρ).bind fun a => (h a.2).bind fun b => .ret (.nx ((b.2.set i (.fz a.1)).set j (.fz b.1)))
theorem vs_par {i j : Nat} {x y : Str} {ga gb : GE} {px py pt : Pos} {kt k2 pt2} (hc : X.calm = true) (hN : X.N.Nodup) (hi : X.N[i]? = some x) (hj : X.N[j]? = some y) (hij : i ≠ j) (hpi : pn i = false) (hpj : pn j = false)
    (hx : X.env.scope.names.lookup x = some .local) (hy : X.env.scope.names.lookup y = some .local) (ha : PE X a (tE c W ga)) (hb : PE X b (tE c W gb))
    (hw : swappedStores [.Tuple [.Name x px, .Name y py] kt pt] (.Tuple [a, b] k2 pt2) X.env = pure (some [x, y]))
    (he : starEach [a, b] X.env = (false, eval a X.env) :: starEach [b] X.env := by rfl) (he2 : starEach [b] X.env = (false, eval b X.env) :: starEach [] X.env := by rfl)
    (hs : swapsWithSole [.Tuple [.Name x px, .Name y py] kt pt] (.Tuple [a, b] k2 pt2) pos.line X.env = pure false := by rfl) :
    PS X (.Assign [.Tuple [.Name x px, .Name y py] kt pt] (.Tuple [a, b] k2 pt2) pos) (tS c pn W (sPar i j ga gb)) :=
  imp_PS (ps_par hc hN hi hj hij hx hy (pa_cons ha (pa_cons hb pa_nil he2) he) hw hs) fun D σ H ⟨ρ, F, er, z⟩ =>
    tE_bindS er z fun v ρ1 w F1 H1 st rep h1 => tE_bindS st.2 h1 fun u ρ2 y F2 H2 st2 rep2 h2 => ⟨w, y, rfl, h2 _ F2 H2
      ⟨(Stp.refl F2 H2 _).less fun p q => own_set (own_set q), (st2.2.set (rep.mono st2.1.ff)).set rep2, (fun k hk => by
        have n1 : j ≠ k := fun q => by rw [← q, hpj] at hk; cases hk
        have n2 : i ≠ k := fun q => by rw [← q, hpi] at hk; cases hk
        rw [List.getElem?_set_ne n1, List.getElem?_set_ne n2]), by rw [List.length_set, List.length_set]⟩⟩
end
end VL

set_option Elab.async false
set_option linter.all false
set_option maxRecDepth 100000
set_option maxHeartbeats 1000000
/-! VL, part 8: loops, defs, exceptions. -/
namespace VL
open PySem PySem.Spec PyProof.Rows L2

/-! ### for -/
def forLoop (f : GG) (g : GS) : List PV → Env' → Wp XE' Out
  | [], ρ => .ret (.nx ρ)
  | x :: xs, ρ => match f x ρ with
    | none => .stuck
    | some ρ1 => (g ρ1).bind fun o => match o with
      | .nx ρ2 => forLoop f g xs ρ2
      | .ct ρ2 => forLoop f g xs ρ2
      | .bk ρ2 => .ret (.nx ρ2)
      | .rt v ρ2 => .ret (.rt v ρ2)
      | .th (some b) ρ2 => .ret (.th (some b) ρ2)
      | .th none _ => .stuck
def sFor (f : GG) (gi : GI) (g : GS) : GS := fun ρ => (gi ρ).bind fun a => forLoop f g a.1 a.2
section
variable {c : Cn} {X : Cx} {W : WX} {pn : Nat → Bool} {g : GS} {pos : Pos}
theorem vs_for {tg iter : Expr} {body : List Stmt} {is : List Nat} {tgr : TG} {f : GG} {gi : GI} (hp : PassesOwn (model X.prog X.w) X.A X.env X.xe) (hc : X.calm = true) (hi : PI X tg iter (tI c W gi)) (hg : PG X tg tgr) (hgf : TgOk c is tgr f) (hpn : ∀ i, i ∈ is → pn i = false)
    (hb : PSs X body (tS c pn W g)) (hs : ∀ x, foldedSetIterable iter X.env x = pure x := by intro _; rfl) : PS X (.For tg iter body [] pos) (tS c pn W (sFor f gi g)) :=
  imp_PS (ps_for hp hc hi hg hb hs) fun D σ H ⟨ρ, F, er, z⟩ => tI_bindS er z fun xs ρ1 J F1 H1 st wk h1 => by
    refine ⟨fun i m σ' H' => m = xs.length - i ∧ i ≤ xs.length ∧ ∃ ρ' F', StpS c pn σ ρ1 F1 H1 σ' ρ' F' H' ∧ (forLoop f g (xs.drop i) ρ').run (OkS c pn σ' ρ' F' H' D) (ErS c pn W σ' ρ' F' H'),
      ⟨_, rfl, Nat.zero_le _, ρ1, F1, StpS.refl st.2, h1⟩, fun i m σ' H' hW => ?_⟩
    obtain ⟨rfl, hle, ρ', F', s, run⟩ := hW
    have same : Same F1 H' := s.1.ff.trans s.2.1.sub
    by_cases hi : i < xs.length
    · rw [List.drop_eq_getElem_cons hi] at run
      unfold forLoop at run
      obtain ⟨go, yl⟩ := wk.go i xs[i] H' (List.getElem?_eq_getElem hi) same
      refine .inr ⟨go, fun σ3 H3 => ∃ ρ3 F3, StpS c pn σ ρ1 F1 H1 σ3 ρ3 F3 H3 ∧ (forLoop f g (xs.drop (i + 1)) ρ3).run (OkS c pn σ3 ρ3 F3 H3 D) (ErS c pn W σ3 ρ3 F3 H3), fun σ3 H3 ⟨ρ3, F3, s3, r3⟩ => ⟨xs.length - (i + 1), by omega, rfl, hi, ρ3, F3, s3, r3⟩, fun x Hy y => ?_⟩
      obtain ⟨Fy, gr, rx⟩ := yl x Hy F' s.1.ff s.2.1.sub y
      have ery := s.2.1.grow gr
      cases hf : f xs[i] ρ' with
      | none => rw [hf] at run; exact run.elim
      | some ρ2 =>
        rw [hf] at run
        dsimp only at run
        refine hgf Fy Hy σ' ρ' ρ2 x xs[i] _ ery rx hf fun σ2 er2 ow2 wp nj => ?_
        have s2 : StpS c pn σ' ρ' F' H' σ2 ρ2 Fy Hy := ⟨(gr.stp _).less fun p q => ow2 p q, er2, (fun j hj => nj j (fun q => by rw [hpn j q] at hj; cases hj)), len_wipe wp⟩
        refine ⟨ρ2, Fy, er2, (g ρ2).mono (fun o q => ?_) (fun _ q => ErS.step s2 q) run⟩
        cases o with
        | nx ρ3 => exact fun σ3 F3 H3 s3 => ⟨ρ3, F3, s.trans (s2.trans s3), run_stepS (s2.trans s3) q⟩
        | ct ρ3 => exact fun σ3 F3 H3 s3 => ⟨ρ3, F3, s.trans (s2.trans s3), run_stepS (s2.trans s3) q⟩
        | bk ρ3 => exact fun σ3 F3 H3 s3 => q σ3 F3 H3 (s2.trans s3)
        | rt v ρ3 => exact fun w σ3 F3 H3 s3 rp => q w σ3 F3 H3 (s2.trans s3) rp
        | th o ρ3 => cases o with
          | none => exact q.elim
          | some b => exact fun σ3 H3 t => ⟨(fun z => nomatch z), (q σ3 H3 (t.step s2)).2⟩
    · have e : i = xs.length := by omega
      subst e
      rw [List.drop_length] at run
      exact .inl ⟨wk.stop H' same, run σ' _ H' (StpS.refl s.2.1)⟩

/-! ### while -/
def whLoop (t : GT) (g : GS) : Nat → Env' → Wp XE' Out
  | 0, _ => .stuck
  | n + 1, ρ => (t ρ).bind fun b => if b.1 = true then (g b.2).bind fun o => match o with
      | .nx ρ2 => whLoop t g n ρ2
      | .ct ρ2 => whLoop t g n ρ2
      | .bk ρ2 => .ret (.nx ρ2)
      | .rt v ρ2 => .ret (.rt v ρ2)
      | .th (some b) ρ2 => .ret (.th (some b) ρ2)
      | .th none _ => .stuck
    else .ret (.nx b.2)
/-- some number of turns is enough -/
def sWhile (t : GT) (g : GS) : GS := fun ρ => ⟨fun K E => ∃ n, (whLoop t g n ρ).run K E, fun h e ⟨n, x⟩ => ⟨n, (whLoop t g n ρ).mono h e x⟩⟩
theorem vs_while {a : Expr} {body : List Stmt} {gt : GT} (hp : PassesOwn (model X.prog X.w) X.A X.env X.xe) (ht : PT X a (tT c W gt)) (hb : PSs X body (tS c pn W g)) : PS X (.While a body [] pos) (tS c pn W (sWhile gt g)) :=
  imp_PS (ps_while hp ht hb) fun D σ H ⟨ρ, F, er, n0, z⟩ => by
    refine ⟨fun n σ' H' => ∃ ρ' F', StpS c pn σ ρ F H σ' ρ' F' H' ∧ (whLoop gt g n ρ').run (OkS c pn σ' ρ' F' H' D) (ErS c pn W σ' ρ' F' H'), ⟨n0, ρ, F, StpS.refl er, z⟩, fun n σ1 H1 hW => ?_⟩
    obtain ⟨ρ1, F1, s1, run⟩ := hW
    cases n with
    | zero => exact run.elim
    | succ n =>
      unfold whLoop at run
      refine tT_bindS s1.2.1 run fun b ρ2 F2 H2 st2 run2 => ?_
      have s2 := s1.trans st2.s
      cases b with
      | true =>
        refine ⟨fun σ3 H3 => ∃ ρ3 F3, StpS c pn σ ρ F H σ3 ρ3 F3 H3 ∧ (whLoop gt g n ρ3).run (OkS c pn σ3 ρ3 F3 H3 D) (ErS c pn W σ3 ρ3 F3 H3), fun σ3 H3 q => ⟨n, Nat.lt_succ_self n, q⟩, ρ2, F2, st2.2, (g ρ2).mono (fun o q => ?_) (fun _ q => q) run2⟩
        cases o with
        | nx ρ3 => exact fun σ3 F3 H3 s3 => ⟨ρ3, F3, s2.trans s3, run_stepS s3 q⟩
        | ct ρ3 => exact fun σ3 F3 H3 s3 => ⟨ρ3, F3, s2.trans s3, run_stepS s3 q⟩
        | bk ρ3 => exact fun σ3 F3 H3 s3 => q σ3 F3 H3 s3
        | rt v ρ3 => exact fun w σ3 F3 H3 s3 rp => q w σ3 F3 H3 s3 rp
        | th o ρ3 => cases o with
          | none => exact q.elim
          | some b => exact fun σ3 H3 t => ⟨(fun z => nomatch z), (q σ3 H3 t).2⟩
      | false => exact run2 σ1 F2 H2 (StpS.refl st2.2)
end

/-! ### defs -/
def outs : List SV → Env' → List SV
  | [], _ => []
  | s :: ss, ρ => (if s.own = true then ρ.headD .un else .un) :: outs ss ρ.tail
def pinned (pn : Nat → Bool) (ss : List SV) : Bool := (List.range ss.length).all fun i => match ss[i]? with
  | some s => !s.own || pn i
  | none => true
/-- a def with n slots -/
def fnV (n : Nat) (pn : Nat → Bool) (g : GS) : GF := fun ss => if pinned pn ss = true then ((g (ss ++ List.replicate (n - ss.length) .un)).mapE fun e => (e.1, outs ss e.2)).bind fun o => match o with
  | .nx ρ => .ret (.non, outs ss ρ)
  | .rt v ρ => .ret (v, outs ss ρ)
  | _ => .stuck
  else .stuck
section
variable {c : Cn} {pn : Nat → Bool} {F H F' H' : Hp}
theorem outs_length : ∀ (ss : List SV) (ρ : Env'), (outs ss ρ).length = ss.length
  | [], _ => rfl
  | s :: ss, ρ => congrArg Nat.succ (outs_length ss ρ.tail)
theorem outs_get : ∀ {ss : List SV} {ρ : Env'} {i : Nat} {t : SV}, (outs ss ρ)[i]? = some t → (∃ s, ss[i]? = some s ∧ s.own = true ∧ ρ[i]? = some t) ∨ t = .un
  | [], _, _, _, h => by simp [outs] at h
  | s :: ss, ρ, 0, t, h => by
    have h' : (if s.own = true then ρ.headD .un else .un) = t := by simpa [outs] using h
    by_cases ho : s.own = true
    · rw [if_pos ho] at h'
      cases ρ with
      | nil => exact .inr h'.symm
      | cons a as => exact .inl ⟨s, rfl, ho, by rw [← h']; rfl⟩
    · rw [if_neg ho] at h'
      exact .inr h'.symm
  | s :: ss, ρ, i + 1, t, h => by
    have h' : (outs ss ρ.tail)[i]? = some t := by simpa [outs] using h
    rcases outs_get h' with ⟨u, a, b, d⟩ | e
    · refine .inl ⟨u, by simpa using a, b, ?_⟩
      cases ρ with
      | nil => simp at d
      | cons x xs => simpa using d
    · exact .inr e
theorem er_enter {N : List Str} {vs : List V} {ss : List SV} (er : ER c F H (vs.map some) ss) (hl : vs.length ≤ N.length) : ER c F H (L2.start N vs) (ss ++ List.replicate (N.length - ss.length) .un) ∧ ∀ p, Own (L2.start N vs) (ss ++ List.replicate (N.length - ss.length) .un) p ↔ Own (vs.map some) ss p := by
  have len : vs.length = ss.length := by have := er.len; rwa [List.length_map] at this
  have lo : ∀ {i : Nat}, i < ss.length → (L2.start N vs)[i]? = (vs.map some)[i]? ∧ (ss ++ List.replicate (N.length - ss.length) SV.un)[i]? = ss[i]? := fun {i} h => by
    refine ⟨?_, List.getElem?_append_left h⟩
    unfold L2.start
    exact List.getElem?_append_left (by rw [List.length_map, len]; exact h)
  have hi : ∀ {i : Nat} {s : SV}, ¬ i < ss.length → (ss ++ List.replicate (N.length - ss.length) SV.un)[i]? = some s → s = .un := fun {i s} h e => by
    rw [List.getElem?_append_right (by omega), List.getElem?_replicate] at e
    split at e
    · cases e; rfl
    · cases e
  have own : ∀ {i : Nat} {s : SV}, (ss ++ List.replicate (N.length - ss.length) SV.un)[i]? = some s → s.own = true → i < ss.length := fun {i s} e h => by
    by_cases q : i < ss.length
    · exact q
    · rw [hi q e] at h
      cases h
  refine ⟨⟨er.sub, ?_, fun i o s h1 h2 => ?_, fun i j s t p h1 h2 h3 h4 h5 h6 => ?_, er.mrk⟩, fun p => ⟨fun ⟨i, s, h1, h2, h3⟩ => ?_, fun ⟨i, s, h1, h2, h3⟩ => ?_⟩⟩
  · unfold L2.start
    rw [List.length_append, List.length_append, List.length_map, List.length_replicate, List.length_replicate, len]
  · by_cases q : i < ss.length
    · rw [(lo q).1] at h1
      rw [(lo q).2] at h2
      exact er.slot i o s h1 h2
    · rw [hi q h2]
      trivial
  · have q1 := own h3 h5
    have q2 := own h4 h6
    rw [(lo q1).1] at h1
    rw [(lo q2).1] at h2
    rw [(lo q1).2] at h3
    rw [(lo q2).2] at h4
    exact er.dis i j s t p h1 h2 h3 h4 h5 h6
  · have q := own h2 h3
    rw [(lo q).1] at h1
    rw [(lo q).2] at h2
    exact ⟨i, s, h1, h2, h3⟩
  · have q : i < ss.length := (List.getElem?_eq_some_iff.mp h2).1
    exact ⟨i, s, by rw [(lo q).1]; exact h1, by rw [(lo q).2]; exact h2, h3⟩
theorem er_leave {N : List Str} {vs : List V} {ss : List SV} {σ' : St} {ρ' : Env'} (er : ER c F H (vs.map some) ss) (hl : vs.length ≤ N.length) (hp : pinned pn ss = true)
    (s : StpS c pn (L2.start N vs) (ss ++ List.replicate (N.length - ss.length) .un) F H σ' ρ' F' H') : StpE c (vs.map some) ss F H (outs ss ρ') F' H' := by
  obtain ⟨er0, ow0⟩ := er_enter er hl
  have len : vs.length = ss.length := by have := er.len; rwa [List.length_map] at this
  have pin : ∀ {i : Nat} {s : SV}, ss[i]? = some s → s.own = true → pn i = true := fun {i s} h1 h2 => by
    unfold pinned at hp
    have q := List.all_eq_true.mp hp i (List.mem_range.mpr (List.getElem?_eq_some_iff.mp h1).1)
    rw [h1] at q
    simpa [h2] using q
  have at_ : ∀ {i : Nat} {u : SV}, ss[i]? = some u → u.own = true → σ'[i]? = (vs.map some)[i]? := fun {i u} h1 h2 => by
    rw [s.2.2.1 i (pin h1 h2)]
    unfold L2.start
    exact List.getElem?_append_left (by rw [List.length_map, len]; exact (List.getElem?_eq_some_iff.mp h1).1)
  have own' : ∀ p, Own (vs.map some) (outs ss ρ') p → Own σ' ρ' p := fun p ⟨i, t, h1, h2, h3⟩ => by
    rcases outs_get h2 with ⟨u, a, b, d⟩ | e
    · exact ⟨i, t, by rw [at_ a b]; exact h1, d, h3⟩
    · subst e; cases h3
  refine ⟨⟨s.1.ff, fun p o h n => s.1.hh p o h fun q => n ((ow0 p).mp q), s.1.th, fun p h => ?_⟩, s.2.1.sub, ?_, fun i o t h1 h2 => ?_, fun i j t u p h1 h2 h3 h4 h5 h6 => ?_, s.2.1.mrk⟩
  · rcases s.1.ow p (own' p h) with q | q
    · exact .inl ((ow0 p).mp q)
    · exact .inr q
  · rw [List.length_map]
    rw [outs_length, len]
  · rcases outs_get h2 with ⟨v, a, b, d⟩ | e
    · exact s.2.1.slot i o t (by rw [at_ a b]; exact h1) d
    · subst e; trivial
  · rcases outs_get h3 with ⟨v, a, b, d⟩ | e
    · rcases outs_get h4 with ⟨v', a', b', d'⟩ | e
      · exact s.2.1.dis i j t u p (by rw [at_ a b]; exact h1) (by rw [at_ a' b']; exact h2) d d' h5 h6
      · subst e; cases h6
    · subst e; cases h5
/-- a def of the text keeps what its body makes -/
theorem fn_ok {P : Program} {w : World} {K : PySem.W.Frag} {mg : Str → Option Value} {base : Heap} {x qual : Str} {st : Stmt} {f : Addr} {fd : FuncData} {N ps : List Str} {k n : Nat} {g : GS} (hk : c.K = K) (Fn : Fun K x qual st f fd) (S : FnScope N ps (defScope st)) (hn : ps.length = n) (hl : ps.length ≤ N.length)
    (hbody : ∀ (cdv : Value) (A : Around) (outer : List Env) (s : Shared) (H : Hp) (E : XK), Room k (A.deeper (envOfC qual (defScope st) s.heap.objs.size f cdv)) →
      PSs (cxOf (L2.CX P w) P w K mg base N qual (defScope st) f cdv A outer s H E) (defBody st) (tS c pn (fun cls d _ H' => E cls d H') g)) : FnOk P w K mg base (L2.CX P w) (k + 1) f fd ps (SpV c n (fnV N.length pn g)) := by
  refine Fn.okX S (fun vs H Q E h => h.1.trans hn.symm) (fun cdv A outer s H vs Q E hr h => ⟨_, hbody cdv A outer s H E hr, ?_⟩)
  obtain ⟨hv, F, ss, er, z⟩ := h
  have hvl : vs.length ≤ N.length := by omega
  unfold fnV at z
  by_cases hp : pinned pn ss = true
  · rw [if_pos hp] at z
    obtain ⟨er0, _⟩ := er_enter er hvl
    refine ⟨_, F, er0, (g _).mono (fun o q => ?_) (fun e q d σ' F' H' s' ex => q d F' H' (er_leave er hvl hp s') ex) z⟩
    cases o with
    | nx ρ' => exact fun σ' F' H' s' => q .non F' H' (er_leave er hvl hp s') .non
    | rt v ρ' => exact fun w σ' F' H' s' rp => q w F' H' (er_leave er hvl hp s') rp
    | bk ρ' => exact q.elim
    | ct ρ' => exact q.elim
    | th o ρ' => exact q.elim
  · rw [if_neg hp] at z
    exact z.elim
end
end VL

set_option Elab.async false
set_option linter.all false
set_option maxRecDepth 100000
set_option maxHeartbeats 2000000
/-! VL, part 9: raise, try. -/
namespace VL
open PySem PySem.Spec PyProof.Rows L2

/-! ### try with clauses of both kinds (with a name, without) -/
/-- a clause: the class, the slot of its name if it has one, its suite's reading -/
abbrev Cl := Value × Option Nat × (Addr → Value → Option Addr → TS)
def suiteEnds (D : Ends) : Option Nat → Ends
  | none => D
  | some i => { nx := fun σ' H' => D.nx (σ'.set i none) H', rt := D.rt, bk := fun σ' H' => D.bk (σ'.set i none) H', ct := fun σ' H' => D.ct (σ'.set i none) H' }
def suiteSt (σ : St) (a : Addr) : Option Nat → St
  | none => σ
  | some i => σ.set i (some (.ref a))
def wMix (K : PySem.W.Frag) (Wo : WX) (D : Ends) : List Cl → WX
  | [] => Wo
  | k :: r => fun cls d σ H => ∃ b, PySem.W.exmOne K cls k.1 = some b ∧ (b = true → ∀ a, H a = none → k.2.2 a cls d (suiteEnds D k.2.1) (suiteSt σ a k.2.1) H) ∧ (b = false → wMix K Wo D r cls d σ H)
def SuiteOk (X : Cx) (suite : List Stmt) (ts : Addr → Value → Option Addr → TS) : Prop :=
  ∀ (a : Addr) (oe : Obj) (cls : Value) (d : Option Addr) (pl : List (Addr × Obj)), Zc cls d oe → (∃ vs, oe.data = .fields vs) → PSs (X.suite a ((a, oe) :: pl)) suite (ts a cls d)
inductive ClsOk (X : Cx) : List ExceptHandler → List Cl → Prop
  | nil : ClsOk X [] []
  | bare {x : Str} {cv : Value} {ts : Addr → Value → Option Addr → TS} {b₀ : Stmt} {suite : List Stmt} {np hp : Pos} {hds : List ExceptHandler} {l : List Cl} (hc : Names X x cv) (hsu : SuiteOk X (b₀ :: suite) ts) (r : ClsOk X hds l) :
      ClsOk X (.ExceptHandler (some (.Name x np)) none (b₀ :: suite) hp :: hds) ((cv, none, ts) :: l)
  | named {x n : Str} {i : Nat} {cv : Value} {ts : Addr → Value → Option Addr → TS} {b₀ : Stmt} {suite : List Stmt} {np hp : Pos} {hds : List ExceptHandler} {l : List Cl} (hc : Names X x cv) (hi : X.N[i]? = some n) (hln : X.env.kindOf n = some .local) (hsu : SuiteOk X (b₀ :: suite) ts) (r : ClsOk X hds l) :
      ClsOk X (.ExceptHandler (some (.Name x np)) (some n) (b₀ :: suite) hp :: hds) ((cv, some i, ts) :: l)
section
variable {X : Cx} {body : List Stmt} {h₀ : ExceptHandler} {hds : List ExceptHandler} {l : List Cl} {pos : Pos} {tb : WX → TS} {Wo : WX}
theorem ps_try_mix (hs : X.stack = X.env :: X.outer) (hf : X.env.frame = some X.env.locals) (hN : X.N.Nodup) (tk : Takes X Wo)
    (hb : ∀ (W : WX) (pl : List (Addr × Obj)) (xe : Value → Shared → Prop), Takes (X.tr pl xe) W → PassesOwn (model X.prog X.w) X.A X.env xe → PSs (X.tr pl xe) body (tb W))
    (hh : ClsOk X (h₀ :: hds) l) : PS X (.Try body (h₀ :: hds) [] [] pos) (fun D σ H => tb (wMix X.K Wo D l) D σ H) := by
  refine ⟨fun pins s σ H D I h => ?_⟩
  have ok := I.ok
  have fr : X.A.frames = some (X.env :: X.outer) := ok.frames.trans (congrArg some hs)
  refine wpAny_Try_except ?_
  refine wpAny_mono ((hb (wMix X.K Wo D l) (X.pn ++ pins) (fun x s1 => wpAny (model X.prog X.w) X.A (noteFrame x X.env) (fun _ s2 => wpAny (model X.prog X.w) X.A (setFlight x none)
    (fun _ s3 => wpAny (model X.prog X.w) X.A (handleBy x X.env (h₀ :: hds)) (SP X pins D) X.xe s3) X.xe s2) X.xe s1) (fun u s' xx => ?_) PassesOwn.looking).run [] s σ H D (I.toTry _) h) (fun fl s1 q => ?_) fun _ _ z => z
  · -- an exception has left the body
    obtain ⟨a, B, sI, pl, τ, G, cls, d, rfl, J', nb, up, sky, na, os, ag, w⟩ := xx
    have J : Inv X pins τ G sI := J'.ofTry ok
    rw [show (X.tr (X.pn ++ pins) _).stack = X.env :: X.outer from hs] at sky
    show wpAny (model X.prog X.w) X.A (noteFrame (.ref a) X.env) _ _ _
    refine Sky.land Zc.steady fr hf sky fun h3 fl3 up3 => ?_
    have J3 : Inv X pins τ G { s' with heap := h3 } := J.landed nb fl3.1 (up.trans up3) os ag
    obtain ⟨oe3, vs3, he3, hz3, hd3⟩ := fl3.there
    have nfr : a ∉ frs (X.env :: X.outer) := fun hm => by
      obtain ⟨_, o', e', hnf⟩ := fl3.2.2.1.mem hm
      rw [he3] at e'
      cases e'
      exact hnf _ hd3
    have nL : a ≠ X.env.locals := fun z => nfr (by rw [z]; exact List.mem_filterMap.mpr ⟨X.env, List.mem_cons_self, hf⟩)
    have nF : a ∉ X.fs := fun hm => by
      obtain ⟨v, hv, q⟩ := List.mem_filterMap.mp hm
      exact nfr (List.mem_filterMap.mpr ⟨v, List.mem_cons_of_mem _ hv, q⟩)
    have S3 := J3.suite he3 hd3 na nL nF
    have tests : ∀ {x : Str} {cv : Value} {np : Pos}, Names X x cv → ∀ {Q : Value → Shared → Prop} {E : Value → Shared → Prop}, Q cv { s' with heap := h3 } → wpAny (model X.prog X.w) (X.A.mark (some (.ref a))) (eval (.Name x np) X.env) Q E { s' with heap := h3 } := fun {x cv np} hc {Q E} q => by
      obtain ⟨hg, hdbg, hm | ⟨hm, hv, hnn⟩⟩ := hc
      · exact ld_glob (X := X.suite a ((a, oe3) :: (X.pn ++ pins))) S3 hg hm q hdbg
      · exact ld_blt (X := X.suite a ((a, oe3) :: (X.pn ++ pins))) S3 hg hm hv q hnn hdbg
    have LT : PySem.W.Looks (model X.prog X.w) h3 (typeOf (.ref a)) cls := fun A Q E s k q => wpAny_typeOf_ref (k _ _ he3) (by rw [hz3.1]; exact q)
    have go : ∀ {hds' : List ExceptHandler} {l' : List Cl}, ClsOk X hds' l' → wMix X.K Wo D l' cls d τ G → wpAny (model X.prog X.w) X.A (handleBy (.ref a) X.env hds') (SP X pins D) X.xe { s' with heap := h3 } := by
      intro hds' l' hk
      induction hk with
      | nil =>
        intro w
        refine wpAny_handleBy_nil ?_
        obtain ⟨k1, k2, k3, oe, vs, T, oT, ts', he, hz, hd, h1, hr⟩ := id fl3
        unfold PySem.passOn
        refine wpAny_bind (wpAny_field he hd h1 ?_)
        rw [if_neg (show ¬ ((Value.ref T == Value.none) = true) from by simp)]
        have fin : wpAny (model X.prog X.w) X.A (setFlight (.ref a) X.env.frame) (fun _ s4 => wpAny (model X.prog X.w) X.A (throw (.ref a) : Sem Flow) (SP X pins D) X.xe s4) X.xe { s' with heap := h3 } := by
          rw [hf]
          refine HandSPX.setFlight_upZ fl3 fun h4 hh4 up4 => wpAny_throw (tk _ _ ?_)
          exact ⟨a, B, sI, pins, τ, G, cls, d, rfl, J, nb, (up.trans up3).trans up4, .inr (.inr (by rw [hs]; exact hh4)), na, os, ag, w⟩
        first
          | exact wpAny_bind (wpAny_pure (wpAny_bind fin))
          | exact wpAny_bind fin
      | @bare x cv ts b₀ suite np hp hds2 l2 hc hsu r ih =>
        rintro ⟨b, hb1, hyes, hno⟩
        refine wpAny_handleBy_cons (codeAny_handlers_test ?_) (by intro q; cases q)
        refine tests hc ((PySem.W.exm_one (M := model X.prog X.w) J3.kIn LT hb1).here ?_)
        cases b with
        | false => exact ih (hno rfl)
        | true =>
          refine codeAny_handlers_suite (HandSPX.lands_againZ fl3 fun h4 fl4 up4 => ?_)
          have J4 : Inv X pins τ G { s' with heap := h4 } := J.landed nb fl4.1 ((up.trans up3).trans up4) os ag
          obtain ⟨oe4, vs4, he4, hz4, hd4⟩ := fl4.there
          refine wpAny_mono ((hsu a oe4 cls d (X.pn ++ pins) hz4 ⟨_, hd4⟩).run [] _ _ G _ (J4.suite he4 hd4 na nL nF) (hyes rfl a na)) (fun fl s6 q6 => ?_) fun _ _ z => False.elim z
          cases fl with
          | next => obtain ⟨σ6, H6, S6, q6⟩ := q6; exact ⟨_, _, S6.unsuite ok, q6⟩
          | brk => obtain ⟨σ6, H6, S6, q6⟩ := q6; exact ⟨_, _, S6.unsuite ok, q6⟩
          | cont => obtain ⟨σ6, H6, S6, q6⟩ := q6; exact ⟨_, _, S6.unsuite ok, q6⟩
          | ret u => obtain ⟨v6, σ6, H6, S6, r6, q6⟩ := q6; exact ⟨_, _, _, S6.unsuite ok, r6, q6⟩
      | @named x n i cv ts b₀ suite np hp hds2 l2 hc hi hln hsu r ih =>
        rintro ⟨b, hb1, hyes, hno⟩
        refine wpAny_handleBy_cons (codeAny_handlers_test ?_) (by intro q; cases q)
        refine tests hc ((PySem.W.exm_one (M := model X.prog X.w) J3.kIn LT hb1).here ?_)
        cases b with
        | false => exact ih (hno rfl)
        | true =>
          refine codeAny_handlers_suite_as (HandSPX.lands_againZ fl3 fun h4 fl4 up4 => ?_)
          have J4 : Inv X pins τ G { s' with heap := h4 } := J.landed nb fl4.1 ((up.trans up3).trans up4) os ag
          obtain ⟨oe4, vs4, he4, hz4, hd4⟩ := fl4.there
          refine store_ok (X := X.suite a ((a, oe4) :: (X.pn ++ pins))) (v := .ref a) (J4.suite he4 hd4 na nL nF) hN hi (.inl hln) rfl (fun s5 S5 => ?_) (.inr hln)
          refine wpAny_mono ((hsu a oe4 cls d (X.pn ++ pins) hz4 ⟨_, hd4⟩).run [] s5 _ G _ S5 (hyes rfl a na)) (fun fl s6 q6 => ?_) fun _ _ z => False.elim z
          have end_ : ∀ {σ6 : St} {H6 : Hp} {Q : Shared → Prop}, Inv (X.suite a ((a, oe4) :: (X.pn ++ pins))) [] σ6 H6 s6 → (∀ s7, Inv X pins (σ6.set i none) H6 s7 → Q s7) →
              wpAny (model X.prog X.w) X.A (do bindName X.env n .none; unbindBehindTheSuite X.env n hp) (fun _ s7 => Q s7) X.xe s6 := fun S6 hq => gone_ok (S6.unsuite ok) hN hi hln hq
          cases fl with
          | next => obtain ⟨σ6, H6, S6, q6⟩ := q6; exact end_ S6 fun s7 J7 => ⟨_, _, J7, q6⟩
          | brk => obtain ⟨σ6, H6, S6, q6⟩ := q6; exact end_ S6 fun s7 J7 => ⟨_, _, J7, q6⟩
          | cont => obtain ⟨σ6, H6, S6, q6⟩ := q6; exact end_ S6 fun s7 J7 => ⟨_, _, J7, q6⟩
          | ret u => obtain ⟨v6, σ6, H6, S6, r6, q6⟩ := q6; exact end_ S6 fun s7 J7 => ⟨_, _, _, J7, r6, q6⟩
    exact go hh w
  · cases fl with
    | next => obtain ⟨σ', H', J', q⟩ := q; exact wpAny_execs_nil ⟨σ', H', J'.ofTry ok, q⟩
    | brk => obtain ⟨σ', H', J', q⟩ := q; exact ⟨σ', H', J'.ofTry ok, q⟩
    | cont => obtain ⟨σ', H', J', q⟩ := q; exact ⟨σ', H', J'.ofTry ok, q⟩
    | ret u => obtain ⟨v, σ', H', J', r, q⟩ := q; exact ⟨v, σ', H', J'.ofTry ok, r, q⟩
end

/-! ### suites that return: a constant, or a list of constants and of the error's fields -/
inductive SI where
  | c (v : PV) | f (n : Str)
/-- scalars as values -/
def scV : PV → Option V
  | .non => some .non
  | .bl b => some (.bl b)
  | .int i => some (.int i)
  | .str x => some (.str x)
  | _ => none
theorem scV_rep {c : Cn} {F : Hp} {v : PV} {w : V} (h : scV v = some w) : Rep c F w v := by
  cases v <;> cases h
  · exact .non
  · exact .bl _
  · exact .int _
  · exact .str _
def tCst (v : PV) : TE := match scV v with
  | some w => tC w
  | none => fun _ _ _ => False
def tItem (a : Addr) (cls : Value) (d : Option Addr) (C : Addr) (i : Nat) : SI → TE
  | .c v => tCst v
  | .f n => tXf a cls d C n (tVar i)
def tItems (a : Addr) (cls : Value) (d : Option Addr) (C : Addr) (i : Nat) : List SI → TA
  | [] => tNil
  | x :: xs => tCons (tItem a cls d C i x) (tItems a cls d C i xs)
/-- what a suite of a clause for the class k gives of the error x -/
def siVal (k : Nat) (x : Ex) : SI → Option PV
  | .c v => (scV v).map fun _ => v
  | .f n => if x.k = k then x.fs.lookup n else none
def siVals (k : Nat) (x : Ex) : List SI → Option (List PV)
  | [] => some []
  | s :: r => (siVal k x s).bind fun v => (siVals k x r).map fun vs => v :: vs
inductive HB where
  | one (v : PV) | many (l : List SI)
def hbVal (k : Nat) (x : Ex) : HB → Option PV
  | .one v => (scV v).map fun _ => v
  | .many l => (siVals k x l).bind fun vs => if vs.length ≤ sizeLine then some (.lst none vs) else none
def tHB (C : Addr) (i : Nat) (h : HB) (a : Addr) (cls : Value) (d : Option Addr) : TS := match h with
  | .one v => tRet (tItem a cls d C i (.c v))
  | .many l => tRet (tLst (tItems a cls d C i l))
/-- a clause: the class's number, its name's slot, its body -/
structure Hd where
  k : Nat
  i : Option Nat
  b : HB
def pick (ex : Nat → Nat → Option Bool) (x : Ex) : List Hd → Option (Option PV)
  | [] => some none
  | h :: r => (ex x.k h.k).bind fun b => if b = true then (hbVal h.k x h.b).map some else pick ex x r
def sTry (ex : Nat → Nat → Option Bool) (hs : List Hd) (g : GS) : GS := fun ρ => ⟨fun K E => (g ρ).run K fun e => match pick ex e.1 hs with
    | some (some v) => K (.rt v e.2)
    | some none => E e
    | none => False, fun {K K' E E'} h h' x => (g ρ).mono h (fun e z => by
      cases q : pick ex e.1 hs with
      | none => rw [q] at z; exact z
      | some o =>
        rw [q] at z
        cases o with
        | none => exact h' _ z
        | some v => exact h _ z) x⟩
section
variable {c : Cn} {X : Cx} {W : WX} {pn : Nat → Bool} {g : GS} {pos : Pos}
/-- an item of a suite's list, as it is written -/
inductive ItOk (Y : Cx) (a : Addr) (cls : Value) (d : Option Addr) (C : Addr) (i : Nat) : List Expr → List SI → Prop
  | nil : ItOk Y a cls d C i [] []
  | cons {e : Expr} {s : SI} {es : List Expr} {l : List SI} (h : PE Y e (tItem a cls d C i s)) (r : ItOk Y a cls d C i es l) (hs : starEach (e :: es) Y.env = (false, eval e Y.env) :: starEach es Y.env) : ItOk Y a cls d C i (e :: es) (s :: l)
theorem itOk_pa {Y : Cx} {a : Addr} {cls : Value} {d : Option Addr} {C : Addr} {i : Nat} {es : List Expr} {l : List SI} (h : ItOk Y a cls d C i es l) : PA Y es (tItems a cls d C i l) := by
  induction h with
  | nil => exact pa_nil
  | cons h r hs ih => exact pa_cons h ih hs
theorem suite_many {C : Addr} {i : Nat} {es : List Expr} {l : List SI} {p1 p2 : Pos} (h : ∀ (a : Addr) (oe : Obj) (cls : Value) (d : Option Addr) (pl : List (Addr × Obj)), Zc cls d oe → (∃ vs, oe.data = .fields vs) → ItOk (X.suite a ((a, oe) :: pl)) a cls d C i es l) :
    SuiteOk X [.Return (some (.List es p1)) p2] (tHB C i (.many l)) := fun a oe cls d pl hz hf => pss_one (ps_ret (pe_lst (itOk_pa (h a oe cls d pl hz hf))))
theorem suite_non {C : Addr} {i : Nat} {j : Nat} {p1 p2 : Pos} : SuiteOk X [.Return (some (.Constant .none j p1)) p2] (tHB C i (.one .non)) := fun a oe cls d pl hz hf => pss_one (ps_ret pe_non)
/-- the clauses of the text and their bodies -/
def clOf (c : Cn) (h : Hd) : Cl := (.ref (c.cA h.k), h.i, tHB (c.cA h.k) (h.i.getD 0) h.b)
theorem items_run {a : Addr} {cls : Value} {d : Option Addr} {i k : Nat} {x : Ex} {F H : Hp} {σ : St} (hc : cls = .ref (c.cA x.k)) (hd : ExD c F H d x.fs) :
    ∀ {l : List SI} {vs : List PV} {Q : List V → Hp → Prop}, (∀ n, SI.f n ∈ l → σ[i]? = some (some (.ref a))) → siVals k x l = some vs → (∀ ws, Reps c F ws vs → Q ws H) → tItems a cls d (c.cA k) i l σ H Q := by
  intro l
  induction l with
  | nil => intro vs Q _ e q; cases e; exact q [] .nil
  | cons s l ih =>
    intro vs Q hf e q
    obtain ⟨v, e1, e2⟩ := Option.bind_eq_some_iff.mp (show (siVal k x s).bind _ = some vs from e)
    obtain ⟨us, e3, rfl⟩ := Option.map_eq_some_iff.mp e2
    have rest : ∀ w, Rep c F w v → tItems a cls d (c.cA k) i l σ H fun xs H2 => Q (w :: xs) H2 := fun w r => ih (fun n hn => hf n (List.mem_cons_of_mem _ hn)) e3 fun ws rs => q (w :: ws) (.cons r rs)
    cases s with
    | c u =>
      obtain ⟨w, h1, rfl⟩ := Option.map_eq_some_iff.mp (show (scV u).map (fun _ => u) = some v from e1)
      show tCst u σ H _
      unfold tCst
      rw [h1]
      exact rest w (scV_rep h1)
    | f n =>
      have e4 : (if x.k = k then x.fs.lookup n else none) = some v := e1
      by_cases hk : x.k = k
      · rw [if_pos hk] at e4
        rcases hd with ⟨d', ws, e5, hx, r⟩ | ⟨_, e5⟩
        · obtain ⟨w, h1, h2⟩ := r.lookup e4
          exact ⟨.ref a, hf n List.mem_cons_self, rfl, by rw [hc, hk], d', ws, w, e5, hx, h1, rest w h2⟩
        · rw [e5] at e4
          cases e4
      · rw [if_neg hk] at e4
        cases e4
/-- how errors and clauses go together -/
def ExmOk (c : Cn) (ex : Nat → Nat → Option Bool) : Prop := ∀ k j b, ex k j = some b → PySem.W.exmOne c.K (.ref (c.cA k)) (.ref (c.cA j)) = some b
theorem wMix_pick {ex : Nat → Nat → Option Bool} (hx : ExmOk c ex) {σ : St} {ρ' : Env'} {F H : Hp} {x : Ex} {D : Ends} {d : Option Addr} {Wo : WX} (er : ER c F H σ ρ') (hd : ExD c F H d x.fs) : ∀ {hs : List Hd}, (∀ h ∈ hs, ∀ l, h.b = .many l → (∃ n, SI.f n ∈ l) → ∃ i, h.i = some i ∧ i < σ.length) →
    (match pick ex x hs with
      | some (some v) => ∀ w F' H', Grow F H F' H' → Rep c F' w v → D.rt w H'
      | some none => Wo (.ref (c.cA x.k)) d σ H
      | none => False) → wMix c.K Wo D (hs.map (clOf c)) (.ref (c.cA x.k)) d σ H
  | [], _, q => q
  | h :: r, hn, q => by
    unfold pick at q
    cases e : ex x.k h.k with
    | none => rw [e] at q; exact q.elim
    | some b =>
      rw [e] at q
      simp only [Option.bind_some] at q
      refine ⟨b, hx _ _ _ e, fun eb a ha => ?_, fun eb => ?_⟩
      · subst eb
        rw [if_pos rfl] at q
        have rt : ∀ w H', (suiteEnds D h.i).rt w H' = D.rt w H' := fun w H' => by cases h.i <;> rfl
        cases hb : h.b with
        | one v =>
          rw [hb] at q
          show tHB (c.cA h.k) (h.i.getD 0) h.b a _ d _ _ _
          rw [hb]
          cases ev : scV v with
          | none =>
            have e2 : hbVal h.k x (.one v) = none := by show (scV v).map (fun _ => v) = none; rw [ev]; rfl
            rw [e2] at q
            exact q.elim
          | some w =>
            have e2 : hbVal h.k x (.one v) = some v := by show (scV v).map (fun _ => v) = some v; rw [ev]; rfl
            rw [e2] at q
            show tCst v _ _ _
            unfold tCst
            rw [ev]
            show (suiteEnds D h.i).rt w H
            rw [rt]
            exact q w F H (Grow.refl er.sub) (scV_rep ev)
        | many l =>
          rw [hb] at q
          show tHB (c.cA h.k) (h.i.getD 0) h.b a _ d _ _ _
          rw [hb]
          cases ev : siVals h.k x l with
          | none =>
            have e2 : hbVal h.k x (.many l) = none := by show (siVals h.k x l).bind _ = none; rw [ev]; rfl
            rw [e2] at q
            exact q.elim
          | some vs =>
            by_cases hz : vs.length ≤ sizeLine
            · have e2 : hbVal h.k x (.many l) = some (.lst none vs) := by show (siVals h.k x l).bind (fun vs => if vs.length ≤ sizeLine then some (PV.lst none vs) else none) = _; rw [ev]; exact if_pos hz
              rw [e2] at q
              show tLst (tItems a _ d (c.cA h.k) (h.i.getD 0) l) _ _ _
              refine items_run (x := x) rfl hd (fun n hf => ?_) ev fun ws rs => ⟨by rw [rs.length]; exact hz, fun p hp => ?_⟩
              · obtain ⟨i, hi, hl⟩ := hn h List.mem_cons_self l hb ⟨n, hf⟩
                have e5 : (suiteSt σ a h.i)[h.i.getD 0]? = some (some (.ref a)) := by
                  rw [hi]
                  exact List.getElem?_set_self hl
                exact e5
              · show (suiteEnds D h.i).rt _ _
                rw [rt]
                have gr := upd_grow (o := .lst ws) er.sub hp
                exact q _ _ _ gr (.lst upd_same (rs.mono gr.ff) fun _ z => nomatch z)
            · have e2 : hbVal h.k x (.many l) = none := by show (siVals h.k x l).bind (fun vs => if vs.length ≤ sizeLine then some (PV.lst none vs) else none) = _; rw [ev]; exact if_neg hz
              rw [e2] at q
              exact q.elim
      · subst eb
        rw [if_neg Bool.false_ne_true] at q
        exact wMix_pick hx er hd (fun h' hm => hn h' (List.mem_cons_of_mem _ hm)) q
theorem vs_try {ex : Nat → Nat → Option Bool} {body : List Stmt} {h₀ : ExceptHandler} {hds : List ExceptHandler} {hs : List Hd} (hk : c.K = X.K) (h1 : X.stack = X.env :: X.outer) (h2 : X.env.frame = some X.env.locals) (hN : X.N.Nodup) (tk : Takes X W) (hx : ExmOk c ex)
    (hb : ∀ (W : WX) (pl : List (Addr × Obj)) (xe : Value → Shared → Prop), Takes (X.tr pl xe) W → PassesOwn (model X.prog X.w) X.A X.env xe → PSs (X.tr pl xe) body (tS c pn W g))
    (hh : ClsOk X (h₀ :: hds) (hs.map (clOf c))) (hn : ∀ h ∈ hs, ∀ l, h.b = .many l → (∃ n, SI.f n ∈ l) → ∃ i, h.i = some i ∧ i < X.N.length) : PS X (.Try body (h₀ :: hds) [] [] pos) (tS c pn W (sTry ex hs g)) := by
  refine ⟨fun pins s σ H D I ⟨ρ, F, er, z⟩ => ?_⟩
  refine (ps_try_mix h1 h2 hN tk hb hh).run pins s σ H D I ⟨ρ, F, er, (g ρ).mono (fun _ q => q) (fun e q d σ' F' H' s' hd => ?_) z⟩
  have hl : σ'.length = X.N.length := s'.2.2.2.trans I.len
  rw [← hk]
  refine wMix_pick hx s'.2.1 hd (fun h hm l e1 e2 => by rw [hl]; exact hn h hm l e1 e2) ?_
  cases hp : pick ex e.1 hs with
  | none => rw [hp] at q; exact q.elim
  | some o =>
    rw [hp] at q
    cases o with
    | none => exact q d σ' F' H' s' hd
    | some v => exact fun w F2 H2 gr r => q w σ' F2 H2 (s'.trans ⟨gr.stp _, s'.2.1.grow gr, fun _ _ => rfl, rfl⟩) r
end
end VL

set_option Elab.async false
set_option linter.all false
set_option maxRecDepth 100000
set_option maxHeartbeats 1000000
/-! VL, part 10: raise; lists of one's own; the law's box of digits. -/
namespace VL
open PySem PySem.Spec PyProof.Rows L2

/-! ### raise C(e), C an own class with one field -/
/-- what the __init__ of an error with one field leaves -/
def spInit (C : Addr) (f : Str) : Sp := fun vs H Q _ => ∃ (a : Addr) (y : V), vs = [.ref a, y] ∧ H a = some (exo a C none) ∧ ∀ dx, H dx = none → dx ≠ a → Q .non (upd (upd H dx (exd dx [(f, y)])) a (exo a C (some dx)))
/-- the class x, number k, with one field f -/
structure Ec (P : Program) (w : World) (K : PySem.W.Frag) (mg : Str → Option Value) (base : Heap) (c : Cn) (j : Nat) (x : Str) (k : Nat) (f : Str) : Prop where
  gC : mg x = some (.ref (c.cA k))
  T : OexC K (c.cA k)
  ex : ∃ (fI : Addr) (fd : FuncData) (ps : List Str), ps.length = 2 ∧ PySem.W.findIn K (.ref (c.cA k)) "__init__" = some (some (.ref fI)) ∧ PySem.W.typeIn K (.ref fI) = some (.type "function") ∧
    FnOk P w K mg base (L2.CX P w) j fI fd ps (spInit (c.cA k) f) ∧ Binds K fd ps []
def sRaise (k : Nat) (f : Str) (g : GE) : GS := fun ρ => (g ρ).bind fun a => .raise (⟨k, [(f, a.1)]⟩, a.2)
section
variable {c : Cn} {X : Cx} {W : WX} {pn : Nat → Bool} {e : Expr} {ge : GE} {pos pos2 p : Pos}
theorem vs_raise {x f : Str} {k j r : Nat} (hk : c.K = X.K) (T : Ec X.prog X.w X.K X.mg X.base c j x k f) (hr : Room r X.A) (hj : j + 1 ≤ r) (hc : X.calm = true) (tk : Takes X W) (hg : Gl X x) (he : PE X e (tE c W ge))
    (hdb : (x == ("__debug__" : Str)) = false := by decide) (hs : starEach [e] X.env = (false, eval e X.env) :: starEach [] X.env := by rfl) :
    PS X (.Raise (some (.Call (.Name x p) [e] [] pos)) none pos2) (tS c pn W (sRaise k f ge)) := by
  obtain ⟨fI, fd, ps, hp, iC, tI', G, hb⟩ := T.ex
  refine imp_PS (ps_raise hc tk (pmk_oex (C := c.cA k) T.T iC tI' G (hr.mono hj) hb .nil passL hg T.gC (pa_cons he pa_nil hs) hdb hs)) fun D σ H ⟨ρ, F, er, z⟩ => ?_
  refine tE_bindS er z fun v ρ1 w F1 H1 st rep h1 => ⟨by show 1 ≤ 1000; decide, fun a ha => ⟨a, w, rfl, upd_same, fun dx hd hne => ⟨rfl, dx, [(f, w)], upd_same, ?_, ?_, ?_⟩⟩⟩
  · rw [upd_ne hne, upd_same]
  · rw [upd_ne hne] at hd
    exact hd
  · have hd : H1 dx = none := by rw [upd_ne hne] at hd; exact hd
    have gr : Grow F1 H1 F1 (upd (del (upd (upd (upd H1 a (exo a (c.cA k) none)) dx (exd dx [(f, w)])) a (exo a (c.cA k) (some dx))) a) dx (.xd [(f, w)])) := by
      have hh : Same H1 (upd (del (upd (upd (upd H1 a (exo a (c.cA k) none)) dx (exd dx [(f, w)])) a (exo a (c.cA k) (some dx))) a) dx (.xd [(f, w)])) := fun b o q => by
        have n1 := ne_of_none q ha
        have n2 := ne_of_none q hd
        rw [upd_ne n2, del_ne n1, upd_ne n1, upd_ne n2, upd_ne n1]
        exact q
      exact ⟨Same.refl F1, hh, st.2.sub.trans hh, fun _ _ _ z => z⟩
    exact h1 (some dx) σ F1 _ ⟨gr.stp _, st.2.grow gr, fun _ _ => rfl, rfl⟩ (.inl ⟨dx, [(f, w)], rfl, upd_same, .cons rep .nil⟩)
end

/-! ### a list of one's own: read -/
def eIxO (i : Nat) (g : GE) : GE := fun ρ => if ownAt ρ i = true then (g ρ).bind fun a => match a.2[i]? with
  | some (.ow xs) => lift (pIx (.lst none xs) a.1) a.2
  | _ => .stuck
  else .stuck
/-- an operation on it whose result is a scalar -/
def oneO (f : PV → Option PV) (i : Nat) (ρ : Env') : Wp XE' (PV × Env') := match ρ[i]? with
  | some (.ow xs) => match f (.lst none xs) with
    | some v => if (scV v).isSome = true then .ret (v, ρ) else .stuck
    | none => .stuck
  | _ => .stuck
def eO1 (f : PV → Option PV) (i : Nat) : GE := oneO f i
/-- e op x -/
def eO2 (f : PV → PV → Option PV) (g : GE) (i : Nat) : GE := fun ρ => (g ρ).bind fun a => oneO (f a.1) i a.2
section
variable {c : Cn} {X : Cx} {W : WX} {pn : Nat → Bool} {a b e : Expr} {ga gb : GE} {pos p : Pos} {i : Nat}
theorem ownAt_ow {F H : Hp} {σ : St} {ρ : Env'} {xs : List PV} (h : ρ[i]? = some (.ow xs)) : ownAt ρ i = true := by unfold ownAt; rw [h]; rfl
theorem ve_ixO {ga : GE} (hk : c.K = X.K) (ho : PE X a (tVar i)) (hb : PE X b (tE c W ga)) (hs : PlainIx b := by intro _ _; rfl) : PE X (.Subscript a b pos) (tE c W (eIxO i ga)) := imp_PE (pe_ix ix_list ho hb hs) fun σ H Q ⟨ρ, F, er, z⟩ => by
  unfold eIxO at z
  by_cases ho : ownAt ρ i = true
  · rw [if_pos ho] at z
    obtain ⟨u, hu⟩ := ownAt_val er ho
    refine ⟨u, hu, tE_bind er z fun v ρ1 w F1 H1 st rep h1 => ?_⟩
    dsimp only at h1
    split at h1
    · rename_i xs hi
      obtain ⟨y, e, h4⟩ := lift_run h1
      obtain ⟨q, vs, e1, hF, hH, r⟩ := st.2.ow hi
      rw [hu] at e1
      cases e1
      cases rep with
      | int k =>
        obtain ⟨w, h2, h3⟩ := r.atI (show L2.atI xs k = some y from e)
        exact ⟨q, vs, k, w, rfl, rfl, SqL.of hH, h2, h4 w F1 H1 st h3⟩
      | _ => cases e
    · exact h1.elim
  · rw [if_neg ho] at z
    exact z.elim
theorem scalar_rep {F F' : Hp} {w : V} {v : PV} (h : (scV v).isSome = true) (r : Rep c F w v) : Rep c F' w v := by
  cases r with
  | non => exact .non
  | bl b => exact .bl b
  | int j => exact .int j
  | str x => exact .str x
  | _ => cases h
/-- a list of one's own is a tree of the whole heap -/
theorem ow_rep {F H : Hp} {σ : St} {ρ : Env'} {xs : List PV} (er : ER c F H σ ρ) (h : ρ[i]? = some (.ow xs)) : ∃ w, σ[i]? = some (some w) ∧ Rep c H w (.lst none xs) := by
  obtain ⟨q, vs, e1, hF, hH, r⟩ := er.ow h
  exact ⟨.ref q, e1, .lst hH (r.mono er.sub) fun _ z => nomatch z⟩
theorem oneO_run {f : PV → Option PV} {r : V → Hp → VK → Prop} (hf : Op1 c f r) {σ : St} {ρ ρ0 : Env'} {F H F0 H0 : Hp} {Q : VK} {E : XE' → Prop} (st : StpE c σ ρ0 F0 H0 ρ F H) (z : (oneO f i ρ).run (OkE c σ ρ0 F0 H0 Q) E) : ∃ w, σ[i]? = some (some w) ∧ r w H Q := by
  unfold oneO at z
  split at z
  · rename_i xs hi
    obtain ⟨w, h1, h2⟩ := ow_rep st.2 hi
    refine ⟨w, h1, ?_⟩
    split at z
    · rename_i v hv
      split at z
      · rename_i hs
        exact hf H H w _ v Q (Same.refl H) h2 hv fun u F' H' gr rp => z u F H' (st.trans (Grow.stpE st.2 ⟨Same.refl F, gr.hh, st.2.sub.trans gr.hh, fun _ _ _ q => q⟩)) (scalar_rep hs rp)
      · exact z.elim
    · exact z.elim
  · exact z.elim
theorem oneO_pre {f : PV → Option PV} {ρ : Env'} {K : PV × Env' → Prop} {E : XE' → Prop} (z : (oneO f i ρ).run K E) : ∃ xs, ρ[i]? = some (.ow xs) := by
  unfold oneO at z
  split at z
  · rename_i xs hi
    exact ⟨xs, hi⟩
  · exact z.elim
theorem ve_callBO {x : Str} {id : String} {r : List V → Hp → VK → Prop} {f : PV → Option PV} (hc : CallR X (.builtin id) r) (hf : Op1 c f fun x => r [x]) (hg : Gl X x) (hm : X.mg x = none) (hv : bootBuiltins x = some (.builtin id)) (ha : PE X a (tVar i))
    (hn : x ≠ "__name__" := by decide) (hdb : (x == ("__debug__" : Str)) = false := by decide) (he : starEach [a] X.env = (false, eval a X.env) :: starEach [] X.env := by rfl) : PE X (.Call (.Name x p) [a] [] pos) (tE c W (eO1 f i)) :=
  imp_PE (pe_callB hc hg hm hv (pa_cons ha pa_nil he) hn hdb he) fun σ H Q ⟨ρ, F, er, z⟩ => oneO_run hf (StpE.refl er) z
theorem oneO_run2 {f : PV → PV → Option PV} {r : R2} (hf : Op2 c f r) {σ : St} {ρ ρ0 : Env'} {F H F0 H0 : Hp} {Q : VK} {E : XE' → Prop} {y : V} {u : PV} (ry : Rep c F y u) (st : StpE c σ ρ0 F0 H0 ρ F H) (z : (oneO (f u) i ρ).run (OkE c σ ρ0 F0 H0 Q) E) :
    ∃ w, σ[i]? = some (some w) ∧ r y w H Q := by
  unfold oneO at z
  split at z
  · rename_i xs hi
    obtain ⟨w, h1, h2⟩ := ow_rep st.2 hi
    refine ⟨w, h1, ?_⟩
    split at z
    · rename_i v hv
      split at z
      · rename_i hs
        exact hf H H y w u _ v Q (Same.refl H) (ry.mono st.2.sub) h2 hv fun u F' H' gr rp => z u F H' (st.trans (Grow.stpE st.2 ⟨Same.refl F, gr.hh, st.2.sub.trans gr.hh, fun _ _ _ q => q⟩)) (scalar_rep hs rp)
      · exact z.elim
    · exact z.elim
  · exact z.elim
/-- e in x -/
theorem ve_cmpO {op : CmpOp} {r : R2} {f : PV → PV → Option PV} (ho : OpR X (compareOp op) r) (hf : Op2 c f r) (hm : behindInMarks op b = false) (ha : PE X a (tE c W ga)) (hb : PE X b (tVar i)) :
    PE X (.Compare a [op] [b] pos) (tE c W (eO2 f ga i)) := imp_PE (pe_cmpR ho ha hb hm) fun σ H Q ⟨ρ, F, er, z⟩ => tE_bind er z fun v ρ1 w F1 H1 st rep h1 => oneO_run2 hf rep st h1
/-- x == e -/
def eO3 (f : PV → PV → Option PV) (i : Nat) (g : GE) : GE := fun ρ => if ownAt ρ i = true then (g ρ).bind fun a => oneO (fun u => f u a.1) i a.2 else .stuck
theorem ve_cmpO3 {op : CmpOp} {r : R2} {f : PV → PV → Option PV} (ho : OpR X (compareOp op) r) (hf : Op2 c f r) (hm : behindInMarks op b = false) (ha : PE X a (tVar i)) (hb : PE X b (tE c W ga)) :
    PE X (.Compare a [op] [b] pos) (tE c W (eO3 f i ga)) := imp_PE (pe_cmpR ho ha hb hm) fun σ H Q ⟨ρ, F, er, z⟩ => by
  unfold eO3 at z
  by_cases h : ownAt ρ i = true
  · rw [if_pos h] at z
    obtain ⟨u, hu⟩ := ownAt_val er h
    refine ⟨u, hu, tE_bind er z fun v ρ1 w F1 H1 st rep h1 => ?_⟩
    obtain ⟨u', h2, h3⟩ := oneO_run2 (f := fun a b => f b a) (r := fun x y H Q => r y x H Q) (fun F H x y a b v Q s ra rb e q => hf F H y x b a v Q s rb ra e q) rep st h1
    rw [hu] at h2
    cases h2
    exact h3
  · rw [if_neg h] at z
    exact z.elim

/-! ### .. written -/
def sAppO (i : Nat) (g : GE) : GS := fun ρ => if ownAt ρ i = true then (g ρ).bind fun a => match a.2[i]? with
  | some (.ow xs) => if xs.length < sizeLine then .ret (.nx (a.2.set i (.ow (xs ++ [a.1])))) else .stuck
  | _ => .stuck
  else .stuck
def sPutO (i : Nat) (gk gv : GE) : GS := fun ρ => (gv ρ).bind fun v => if ownAt v.2 i = true then (gk v.2).bind fun k => match k.2[i]? with
  | some (.ow xs) => match k.1 with
    | .int z => match ixN xs.length z with
      | some j => .ret (.nx (k.2.set i (.ow (xs.set j v.1))))
      | none => .stuck
    | _ => .stuck
  | _ => .stuck
  else .stuck
/-- what stands at a list of one's own is changed -/
theorem put_own {F H : Hp} {σ : St} {ρ : Env'} {q : Addr} {vs ws : List V} {xs ys : List PV} (er : ER c F H σ ρ) (hi : ρ[i]? = some (.ow xs)) (hq : σ[i]? = some (some (.ref q))) (hF : F q = none) (hH : H q = some (.lst vs)) (r : Reps c F ws ys) :
    StpS c pn σ ρ F H σ (ρ.set i (.ow ys)) F (upd H q (.lst ws)) := by
  have hil : i < ρ.length := (List.getElem?_eq_some_iff.mp hi).1
  have get : ∀ {j : Nat} {s : SV}, (ρ.set i (.ow ys))[j]? = some s → s.own = true → ∃ t, ρ[j]? = some t ∧ t.own = true := fun {j s} h o => by
    by_cases hj : i = j
    · subst hj; exact ⟨_, hi, rfl⟩
    · rw [List.getElem?_set_ne hj] at h; exact ⟨s, h, o⟩
  have oq : Own σ ρ q := ⟨i, _, hq, hi, rfl⟩
  refine ⟨⟨Same.refl F, fun p o e n => ⟨?_, fun z => z⟩, fun p o e => ?_, fun p ⟨j, s, a, b, d⟩ => ?_⟩, ⟨fun b u h => ?_, by rw [List.length_set]; exact er.len, fun j o s a b => ?_, fun j k s t p a b a' b' d d' => ?_, fun p b => by
    by_cases e : p = q
    · subst e; exact ⟨_, upd_same⟩
    · rw [upd_ne e]; exact er.mrk p b⟩, fun _ _ => rfl, rfl⟩
  · rw [upd_ne fun z => n (by rw [z]; exact oq)]; exact e
  · by_cases hp : p = q
    · subst hp; exact ⟨_, upd_same⟩
    · exact ⟨o, by rw [upd_ne hp]; exact e⟩
  · obtain ⟨t, h1, h2⟩ := get b d
    exact .inl ⟨j, t, a, h1, h2⟩
  · rw [upd_ne (ne_of_none h hF)]; exact er.sub _ _ h
  · by_cases hj : i = j
    · subst hj
      rw [List.getElem?_set_self hil] at b
      cases b
      rw [hq] at a
      cases a
      exact ⟨q, ws, rfl, hF, upd_same, r⟩
    · rw [List.getElem?_set_ne hj] at b
      have z := er.slot j o s a b
      have ne : ∀ p, o = some (.ref p) → s.own = true → p ≠ q := fun p e1 e2 e3 => by
        subst e3
        subst e1
        exact hj (er.dis i j (.ow xs) s p hq a hi b rfl e2)
      cases s with
      | un => trivial
      | fz x => exact z
      | ow zs => obtain ⟨p, us, e, f, h, rp⟩ := z; exact ⟨p, us, e, f, by rw [upd_ne (ne p e rfl)]; exact h, rp⟩
      | bx n => obtain ⟨p, us, e, f, h, rp⟩ := z; exact ⟨p, us, e, f, by rw [upd_ne (ne p e rfl)]; exact h, rp⟩
  · obtain ⟨t1, h1, h2⟩ := get a' d
    obtain ⟨t2, h3, h4⟩ := get b' d'
    exact er.dis j k t1 t2 p a b h1 h3 h2 h4
theorem vs_appO {o : Expr} {apos : Pos} (ho : PE X o (tVar i)) (ha : PE X a (tE c W ga)) (hbase : attributeBase o "append" X.env (eval o X.env) = eval o X.env := by rfl)
    (hfew : ((backTo p (starEach [a] X.env)).all (fun x => !x.1) && (backToKw p (keywordEach [] X.env)).all (fun x => x.1.isSome) && decide ([a].length + ([] : List Keyword).length + (if ([] : List Keyword).isEmpty then 0 else 1) < 30)) = true := by rfl)
    (hline : (apos.endLine == p.line) = true := by rfl) (hs : starEach [a] X.env = (false, eval a X.env) :: starEach [] X.env := by rfl) (hsw : swapsWith (.Call (.Attribute o "append" apos) [a] [] p) none pos.line X.env = pure false := by rfl) :
    PS X (.Expr (.Call (.Attribute o "append" apos) [a] [] p) pos) (tS c pn W (sAppO i ga)) :=
  imp_PS (ps_expr (pe_bm PySem.F.plainAttrs_list PySem.F.slot_list_append PySem.F.type_list_append mt_append ho (pa_cons ha pa_nil hs) hbase hfew hline hs) hsw) fun D σ H ⟨ρ, F, er, z⟩ => by
    unfold sAppO at z
    by_cases h : ownAt ρ i = true
    · rw [if_pos h] at z
      obtain ⟨u, hu⟩ := ownAt_val er h
      obtain ⟨q0, vs0, e0, hq0⟩ : ∃ q vs, u = .ref q ∧ H q = some (.lst vs) := by
        unfold ownAt at h
        split at h
        · rename_i s hs'
          have z0 := er.slot i _ s hu hs'
          cases s with
          | un => cases h
          | fz v => cases h
          | ow xs => obtain ⟨p, vs, e, _, e2, _⟩ := z0; cases e; exact ⟨p, vs, rfl, e2⟩
          | bx n => obtain ⟨p, vs, e, _, e2, _⟩ := z0; cases e; exact ⟨p, vs, rfl, e2⟩
        · cases h
      subst e0
      refine ⟨.ref q0, hu, .inl ⟨rfl, _, SqL.of hq0⟩, tE_bindS er z fun v ρ1 w F1 H1 st rep h1 => ?_⟩
      dsimp only at h1
      split at h1
      · rename_i xs hi
        obtain ⟨q, vs, e1, hF, hH, r⟩ := st.2.ow hi
        rw [hu] at e1
        cases e1
        split at h1
        · rename_i hz
          exact ⟨_, vs, w, rfl, rfl, hH, by rw [r.length]; exact hz, h1 σ F1 _ (put_own st.2 hi hu hF hH (r.append (.cons rep .nil)))⟩
        · exact h1.elim
      · exact h1.elim
    · rw [if_neg h] at z
      exact z.elim
theorem vs_putO {o k v : Expr} {gk gv : GE} {tpos : Pos} (ho : PE X o (tVar i)) (hk : PE X k (tE c W gk)) (hv : PE X v (tE c W gv))
    (ha : ∀ v, assign (.Subscript o k tpos) X.env v = (do
      let ov ← holding [v] (eval o X.env)
      let iv ← holding [v, ov] (eval k X.env)
      standAt tpos
      holding [v, ov, iv] (setItem ov iv v)
      release [v, ov, iv] []) := by intro _; rfl)
    (hs : swapsWithSole [.Subscript o k tpos] v pos.line X.env = pure false := by rfl) (hw : swappedStores [.Subscript o k tpos] v X.env = pure none := by rfl)
    (h1 : (assignEach [.Subscript o k tpos] X.env).map (·.2) = [assign (.Subscript o k tpos) X.env] := by rfl) : PS X (.Assign [.Subscript o k tpos] v pos) (tS c pn W (sPutO i gk gv)) :=
  imp_PS (ps_asg hv (pg_sub ho hk set_list ha) hs hw h1) fun D σ H ⟨ρ, F, er, z⟩ => tE_bindS er z fun v ρ1 w F1 H1 st rep h1 => by
    dsimp only at h1
    by_cases h : ownAt ρ1 i = true
    · rw [if_pos h] at h1
      obtain ⟨u, hu⟩ := ownAt_val st.2 h
      refine ⟨u, hu, tE_bindS st.2 h1 fun k ρ2 y F2 H2 st2 rep2 h2 => ?_⟩
      dsimp only at h2
      split at h2
      · rename_i xs hi
        obtain ⟨q, vs, e1, hF, hH, r⟩ := st2.2.ow hi
        rw [hu] at e1
        have e2 : u = V.ref q := Option.some.inj (Option.some.inj e1)
        subst e2
        split at h2
        · rename_i z
          split at h2
          · rename_i j hj
            cases rep2
            exact ⟨_, vs, z, j, rfl, rfl, hH, by rw [r.length]; exact hj, h2 σ F2 _ (put_own st2.2 hi hu hF hH (r.set (rep.mono st2.1.ff) j))⟩
          · exact h2.elim
        · exact h2.elim
      · exact h2.elim
    · rw [if_neg h] at h1
      exact h1.elim
end
end VL

set_option Elab.async false
set_option linter.all false
set_option maxRecDepth 100000
set_option maxHeartbeats 1000000
/-! VL, part 11: words for printed proofs. -/
namespace VL
open PySem PySem.Spec PyProof.Rows L2

/-! ### the built-ins' names -/
theorem b_len : bootBuiltins "len" = some (.builtin "len") := by decide +kernel
theorem b_abs : bootBuiltins "abs" = some (.builtin "abs") := by decide +kernel
theorem b_max : bootBuiltins "max" = some (.builtin "max") := by decide +kernel
theorem b_min : bootBuiltins "min" = some (.builtin "min") := by decide +kernel
theorem b_sum : bootBuiltins "sum" = some (.builtin "sum") := by decide +kernel
theorem b_all : bootBuiltins "all" = some (.builtin "all") := by decide +kernel
theorem b_any : bootBuiltins "any" = some (.builtin "any") := by decide +kernel
theorem b_sorted : bootBuiltins "sorted" = some (.builtin "sorted") := by decide +kernel
theorem b_isinstance : bootBuiltins "isinstance" = some (.builtin "isinstance") := by decide +kernel
theorem b_int : bootBuiltins "int" = some (.type "int") := by decide +kernel
theorem b_bool : bootBuiltins "bool" = some (.type "bool") := by decide +kernel
theorem b_str : bootBuiltins "str" = some (.type "str") := by decide +kernel
theorem b_list : bootBuiltins "list" = some (.type "list") := by decide +kernel
theorem b_tuple : bootBuiltins "tuple" = some (.type "tuple") := by decide +kernel
theorem b_dict : bootBuiltins "dict" = some (.type "dict") := by decide +kernel
theorem b_set : bootBuiltins "set" = some (.type "set") := by decide +kernel
def noPin : Nat → Bool := fun _ => false
def pin0 : Nat → Bool := fun i => i == 0
theorem hu65 {k : Nat} {A : Around} (hr : Room k A) : A.units + 65 < cLine := by have := hr.un; omega
theorem hu64 {k : Nat} {A : Around} (hr : Room k A) : A.units + 64 < cLine := hr.units
theorem hu1 {k : Nat} {A : Around} (hr : Room k A) : A.units + 1 < cLine := hu_of hr
/-- a def of the text at its name -/
def Dh (K : PySem.W.Frag) (mg : Str → Option Value) (x : Str) (st : Stmt) : Prop := ∃ (f : Addr) (fd : FuncData), mg x = some (.ref f) ∧ Fun K x x st f fd

/-! ### a op b op c -/
def eChain (f h : PV → PV → Option PV) (ga gb gc : GE) : GE := fun ρ => (ga ρ).bind fun a => (gb a.2).bind fun b => match f a.1 b.1 with
  | some (.bl true) => (gc b.2).bind fun d => lift (h b.1 d.1) d.2
  | some (.bl false) => .ret (.bl false, b.2)
  | _ => .stuck
section
variable {c : Cn} {X : Cx} {W : WX} {pn : Nat → Bool} {a b d : Expr} {ga gb gc : GE} {pos : Pos}
/-- an operation that gives a bool at the heap as it stands -/
def Op2B (c : Cn) (f : PV → PV → Option PV) (r : R2) : Prop := ∀ (F H : Hp) (x y : V) (a b : PV) (k : Bool) (Q : VK), Same F H → Rep c F x a → Rep c F y b → f a b = some (.bl k) → Q (.bl k) H → r x y H Q
theorem o_ltB : Op2B c pLt (rI0 fun i j => .bl (decide (i < j))) := fun F H x y a b k Q s ra rb e q => by
  cases ra <;> cases rb <;> first | (cases e; exact ⟨_, _, rfl, rfl, q⟩) | cases e
theorem o_leB : Op2B c pLe (rI0 fun i j => .bl (decide (i ≤ j))) := fun F H x y a b k Q s ra rb e q => by
  cases ra <;> cases rb <;> first | (cases e; exact ⟨_, _, rfl, rfl, q⟩) | cases e
theorem o_gtB : Op2B c pGt (rI0 fun i j => .bl (decide (j < i))) := fun F H x y a b k Q s ra rb e q => by
  cases ra <;> cases rb <;> first | (cases e; exact ⟨_, _, rfl, rfl, q⟩) | cases e
theorem o_geB : Op2B c pGe (rI0 fun i j => .bl (decide (j ≤ i))) := fun F H x y a b k Q s ra rb e q => by
  cases ra <;> cases rb <;> first | (cases e; exact ⟨_, _, rfl, rfl, q⟩) | cases e
theorem chain_run {r r' : R2} {f h : PV → PV → Option PV} (hf : Op2B c f r) (hh : Op2 c h r') {σ : St} {H : Hp} {Q : VK} (z : tE c W (eChain f h ga gb gc) σ H Q) : tChain r r' (tE c W ga) (tE c W gb) (tE c W gc) σ H Q := by
  obtain ⟨ρ, F, er, z⟩ := z
  refine tE_bind er z fun v ρ1 w F1 H1 st rep h1 => tE_bind st.2 h1 fun u ρ2 y F2 H2 st2 rep2 h2 => ?_
  dsimp only at h2
  split at h2
  · rename_i e
    refine hf F2 H2 w y v u true _ st2.2.sub (rep.mono st2.1.ff) rep2 e ⟨true, rfl, ?_⟩
    rw [if_pos rfl]
    refine tE_bind st2.2 h2 fun t ρ3 x F3 H3 st3 rep3 h3 => ?_
    obtain ⟨q, e, h4⟩ := lift_run h3
    exact hh F3 H3 y x u t q Q st3.2.sub (rep2.mono st3.1.ff) rep3 e fun w' F' H' gr r => h4 w' F' H' (st.trans (st2.trans (st3.trans (gr.stpE st3.2)))) r
  · rename_i e
    refine hf F2 H2 w y v u false _ st2.2.sub (rep.mono st2.1.ff) rep2 e ⟨false, rfl, ?_⟩
    rw [if_neg Bool.false_ne_true]
    exact h2 _ F2 H2 (st.trans st2) (.bl false)
  · exact h2.elim
theorem ve_chain {op op' : CmpOp} {r r' : R2} {f h : PV → PV → Option PV} (ho : OpR X (compareOp op) r) (hf : Op2B c f r) (ho' : OpR X (compareOp op') r') (hh : Op2 c h r') (ha : PE X a (tE c W ga)) (hb : PE X b (tE c W gb)) (hd : PE X d (tE c W gc))
    (hm : lastMarks [op, op'] [b, d] = false := by with_unfolding_all rfl) : PE X (.Compare a [op, op'] [b, d] pos) (tE c W (eChain f h ga gb gc)) := imp_PE (pe_chain ho ho' ha hb hd hm) fun _ _ _ z => chain_run hf hh z
theorem vt_chain {op op' : CmpOp} {r r' : R2} {f h : PV → PV → Option PV} (ho : OpR X (compareOp op) r) (hf : Op2B c f r) (ho' : OpR X (compareOp op') r') (hh : Op2 c h r') (ha : PE X a (tE c W ga)) (hb : PE X b (tE c W gb)) (hd : PE X d (tE c W gc))
    (hm : lastMarks [op, op'] [b, d] = false := by with_unfolding_all rfl) : PT X (.Compare a [op, op'] [b, d] pos) (tT c W (gBl (eChain f h ga gb gc))) :=
  imp_PT (pt_chain ho ho' ha hb hd hm) fun σ H Q z => chain_run (W := W) (Q := fun x H' => ∃ k, x = .bl k ∧ Q k H') hf hh (gBl_use z)
theorem vt_pw {e : Expr} {g : GT} (h : PW X e (tT c W g)) : PT X e (tT c W g) := h.pt
end

/-! ### name = a comprehension, the name a plain local -/
section
variable {c : Cn} {X : Cx} {W : WX} {pn : Nat → Bool}
theorem lc_read {is : List Nat} {gi : GI} {g : TG} {f : GG} {gt : GT} {ge : GE} (hgf : TgOk c is g f) {σ : St} {H : Hp} {Q : VK} (z : tL c W (lLc is gi f gt ge) σ H Q) : tLc (tI c W gi) g (tT c W0 gt) (tE c W0 ge) is σ H Q := by
  obtain ⟨ρ, F, er, z⟩ := z
  refine ⟨ρ, F, er, (gi ρ).mono (fun r h1 J F1 H1 st wk D hD => ?_) (fun _ q => q) z⟩
  dsimp only at h1
  by_cases hz : r.1.length ≤ sizeLine ∧ frozenAt r.2 is = true
  · rw [if_pos hz] at h1
    have h2 : (lcLoop is f gt ge r.1 r.2).run (fun q => OkL c σ ρ F H Q (q.1, backE q.2 r.2 is)) (fun _ => False) := h1
    have hFD : F1 D = none := st.2.sub.free hD
    have g0 := (upd_growH (o := .lst []) st.2.sub hD).stp (Own (wipe σ is) (wipeE r.2 is))
    have no0 : ¬ Own (wipe σ is) (wipeE r.2 is) D := not_own_new (st.2.wipe is) hD
    have start : LcAt c is f gt ge σ r.2 F1 H1 D r.1 (fun q => OkL c σ ρ F H Q (q.1, backE q.2 r.2 is)) 0 (upd H1 D (.lst [])) :=
      ⟨[], [], r.2, F1, Nat.le_refl _, upd_same, hFD, no0, ⟨g0.ff, g0.hh, g0.th, fun p q => q.elim .inl fun e => .inr (by rw [e]; exact hD)⟩, er_upd (st.2.wipe is) hFD no0, .nil, h2⟩
    refine ⟨fun i m H' => m = r.1.length - i ∧ i ≤ r.1.length ∧ LcAt c is f gt ge σ r.2 F1 H1 D r.1 (fun q => OkL c σ ρ F H Q (q.1, backE q.2 r.2 is)) i H', ⟨_, rfl, Nat.zero_le _, start⟩, fun i m H' hW => ?_⟩
    obtain ⟨rfl, hle, h⟩ := hW
    by_cases hi : i < r.1.length
    · obtain ⟨go, turn⟩ := lc_turn wk hz.1 hgf h hi
      exact .inr ⟨go, fun H' => LcAt c is f gt ge σ r.2 F1 H1 D r.1 (fun q => OkL c σ ρ F H Q (q.1, backE q.2 r.2 is)) (i + 1) H', fun H' n => ⟨r.1.length - (i + 1), by omega, rfl, hi, n⟩, turn⟩
    · have e : i = r.1.length := by omega
      subst e
      obtain ⟨acc, accP, ρ', F', hl, hDv, hF, no, st', er', rep, run⟩ := h.ex
      rw [List.drop_length] at run
      have q : OkL c σ ρ F H Q (accP ++ [], backE ρ' r.2 is) := run
      rw [List.append_nil] at q
      obtain ⟨er2, ow2⟩ := er_back' st.2 st'.ff er' hz.2
      rw [backE_wipe] at er2 ow2
      refine .inl ⟨wk.stop H' (st'.ff.trans er'.sub), q D acc F' H' ⟨st.1.trans ((st'.more fun p z => own_wipe z).less fun p z => .inl (ow2 p z)), er2⟩ ?_ hF hDv (fun z => no (ow2 D z)) rep⟩
      cases e : H D with
      | none => rfl
      | some o =>
        obtain ⟨o', e'⟩ := st.1.th D o e
        rw [hD] at e'
        cases e'
  · rw [if_neg hz] at h1
    exact h1.elim
variable {elt tg iter : Expr} {ifs : List Expr} {scope : Scope} {own : List (Str × Nat)} {is : List Nat} {pos spos py : Pos} {gi : GI} {g : TG} {f : GG} {gt : GT} {ge : GE} {i : Nat} {y : Str}
theorem tL_any {gl : GL} {σ : St} {H : Hp} {Q : VK} (z : tE c W (eLst gl) σ H Q) : tL c W gl σ H Q := by
  obtain ⟨ρ, F, er, z⟩ := z
  exact ⟨ρ, F, er, (gl ρ).mono (fun r (q : OkE c σ ρ F H Q (.lst none r.1, r.2)) p vs F' H' st hn hF hH no rep => by
    have f := freeze_grow st.2.sub hF hH
    refine q (.ref p) (upd F' p (.lst vs)) H' ⟨⟨st.1.ff.trans f.1, fun b o h n => ?_, st.1.th, st.1.ow⟩, freeze_er st.2 hF hH no⟩ (.lst upd_same (rep.mono f.1) (fun _ z => nomatch z))
    obtain ⟨h1, h2⟩ := st.1.hh b o h n
    exact ⟨h1, fun z => by rw [upd_ne (ne_of_none h hn)]; exact h2 z⟩) (fun _ q => q) z⟩
theorem vs_setLc (hc : X.calm = true) (hN : X.N.Nodup) (hy : X.N[i]? = some y) (hyl : X.env.scope.names.lookup y = some .local) (hp : pn i = false)
    (hsw : swapsWith (.ListComp elt [⟨tg, iter, ifs, 0⟩] scope pos) (some (.Name y py)) spos.line X.env = pure true) (hi : PI X tg iter (tI c W gi)) (ok : BlkOk X.N X.env.scope scope own)
    (hg : ∀ (s : Shared) (H : Hp) (C : Addr) (cl : List (Str × Addr)) (fp : List Addr), PG (X.blk s H scope (compEnvC scope cl C X.env) fp) tg g) (hgf : TgOk c is g f)
    (ht : ∀ (s : Shared) (H : Hp) (C : Addr) (cl : List (Str × Addr)) (fp : List Addr), PTs (X.blk s H scope (compEnvC scope cl C X.env) fp) ifs (tT c W0 gt))
    (he : ∀ (s : Shared) (H : Hp) (C : Addr) (cl : List (Str × Addr)) (fp : List Addr), PE (X.blk s H scope (compEnvC scope cl C X.env) fp) elt (tE c W0 ge)) (his : own.map (·.2) = is := by rfl) (hs : ∀ x, foldedSetIterable iter X.env x = pure x := by intro _; rfl) :
    PS X (.Assign [.Name y py] (.ListComp elt [⟨tg, iter, ifs, 0⟩] scope pos) spos) (tS c pn W (sSet i (eLst (lLc is gi f gt ge)))) := by
  subst his
  exact imp_PS (ps_setLc hc hN hy hyl hsw hi ok hg ht he hs) fun D σ H ⟨ρ, F, er, z⟩ => lc_read hgf (tL_any (tE_bindS er z fun v ρ1 w F1 H1 st rep h1 => h1 _ F1 H1
    ⟨(Stp.refl F1 H1 _).less fun p q => own_set q, st.2.set rep, (fun j hj => List.getElem?_set_ne (fun q => by subst q; rw [hp] at hj; cases hj)), List.length_set⟩))
theorem vs_ownLc (hc : X.calm = true) (hN : X.N.Nodup) (hy : X.N[i]? = some y) (hyl : X.env.scope.names.lookup y = some .local) (hp : pn i = false)
    (hsw : swapsWith (.ListComp elt [⟨tg, iter, ifs, 0⟩] scope pos) (some (.Name y py)) spos.line X.env = pure true) (hi : PI X tg iter (tI c W gi)) (ok : BlkOk X.N X.env.scope scope own)
    (hg : ∀ (s : Shared) (H : Hp) (C : Addr) (cl : List (Str × Addr)) (fp : List Addr), PG (X.blk s H scope (compEnvC scope cl C X.env) fp) tg g) (hgf : TgOk c is g f)
    (ht : ∀ (s : Shared) (H : Hp) (C : Addr) (cl : List (Str × Addr)) (fp : List Addr), PTs (X.blk s H scope (compEnvC scope cl C X.env) fp) ifs (tT c W0 gt))
    (he : ∀ (s : Shared) (H : Hp) (C : Addr) (cl : List (Str × Addr)) (fp : List Addr), PE (X.blk s H scope (compEnvC scope cl C X.env) fp) elt (tE c W0 ge)) (his : own.map (·.2) = is := by rfl) (hs : ∀ x, foldedSetIterable iter X.env x = pure x := by intro _; rfl) :
    PS X (.Assign [.Name y py] (.ListComp elt [⟨tg, iter, ifs, 0⟩] scope pos) spos) (tS c pn W (sOwn i (lLc is gi f gt ge))) := by
  subst his
  exact imp_PS (ps_setLc hc hN hy hyl hsw hi ok hg ht he hs) fun D σ H ⟨ρ, F, er, z⟩ => lc_read hgf ⟨ρ, F, er, Wp.mono (lLc (own.map Prod.snd) gi f gt ge ρ) (K := fun r => (Wp.ret (.nx (r.2.set i (.ow r.1))) : Wp XE' Out).run (OkS c pn σ ρ F H D) (ErS c pn W σ ρ F H)) (E := ErS c pn W σ ρ F H) (fun r h1 p vs F1 H1 st hn hF hH no rep => by
    obtain ⟨er2, ow2⟩ := er_own (i := i) st.2 hF hH no rep
    refine h1 _ F1 H1 ⟨⟨st.1.ff, st.1.hh, st.1.th, fun q z => ?_⟩, er2, (fun j hj => List.getElem?_set_ne (fun q => by subst q; rw [hp] at hj; cases hj)), List.length_set⟩
    rcases ow2 q z with z | z
    · exact st.1.ow q z
    · subst z; exact .inr hn) (fun _ q => q.e) z⟩
end
end VL

set_option Elab.async false
set_option linter.all false
set_option maxRecDepth 100000
set_option maxHeartbeats 1000000
/-! VL, part 12: marks; what changes a tagged node. -/
namespace VL
open PySem PySem.Spec PyProof.Rows L2

/-! ### tags taken off, another mark -/
mutual
def PV.er : PV → PV
  | .tup xs => .tup (erL xs)
  | .lst _ xs => .lst none (erL xs)
  | .dic _ kvs => .dic none (erD kvs)
  | .ins k fs => .ins k (erF fs)
  | .non => .non
  | .bl b => .bl b
  | .int i => .int i
  | .str x => .str x
  | .scr ns => .scr ns
  | .any => .any
def erL : List PV → List PV
  | [] => []
  | x :: xs => x.er :: erL xs
def erD : List (Key × PV) → List (Key × PV)
  | [] => []
  | (k, x) :: xs => (k, x.er) :: erD xs
def erF : List (Str × PV) → List (Str × PV)
  | [] => []
  | (k, x) :: xs => (k, x.er) :: erF xs
end
def Cn.at (c : Cn) (B : Addr → Prop) : Cn := { c with B := B }
mutual
theorem Rep.er {c : Cn} {F : Hp} {B : Addr → Prop} : ∀ {v : V} {x : PV}, Rep c F v x → Rep (c.at B) F v x.er
  | _, _, .non => by simp only [PV.er]; exact .non
  | _, _, .bl b => by simp only [PV.er]; exact .bl b
  | _, _, .int i => by simp only [PV.er]; exact .int i
  | _, _, .str x => by simp only [PV.er]; exact .str x
  | _, _, .tup h r => by simp only [PV.er]; exact .tup h (Reps.er' r)
  | _, _, .lst h r t => by simp only [PV.er]; exact .lst h (Reps.er' r) (fun _ z => nomatch z)
  | _, _, .dic h r t => by simp only [PV.er]; exact .dic h (RepD.er r) (fun _ z => nomatch z)
  | _, _, .ins h r => by simp only [PV.er]; exact .ins h (RepF.er r)
  | _, _, .scr h => by simp only [PV.er]; exact .scr h
  | _, _, .any v => by simp only [PV.er]; exact .any v
theorem Reps.er' {c : Cn} {F : Hp} {B : Addr → Prop} : ∀ {vs : List V} {xs : List PV}, Reps c F vs xs → Reps (c.at B) F vs (erL xs)
  | _, _, .nil => by simp only [erL]; exact .nil
  | _, _, .cons h r => by simp only [erL]; exact .cons (Rep.er h) (Reps.er' r)
theorem RepD.er {c : Cn} {F : Hp} {B : Addr → Prop} : ∀ {vs : List (Key × V)} {xs : List (Key × PV)}, RepD c F vs xs → RepD (c.at B) F vs (erD xs)
  | _, _, .nil => by simp only [erD]; exact .nil
  | _, _, .cons h r => by simp only [erD]; exact .cons (Rep.er h) (RepD.er r)
theorem RepF.er {c : Cn} {F : Hp} {B : Addr → Prop} : ∀ {vs : List (Str × V)} {xs : List (Str × PV)}, RepF c F vs xs → RepF (c.at B) F vs (erF xs)
  | _, _, .nil => by simp only [erF]; exact .nil
  | _, _, .cons h r => by simp only [erF]; exact .cons (Rep.er h) (RepF.er r)
end
def SV.er : SV → SV
  | .fz v => .fz v.er
  | .ow xs => .ow (erL xs)
  | .un => .un
  | .bx n => .bx n
theorem SV.er_own (s : SV) : s.er.own = s.own := by cases s <;> rfl
/-- the owned slots are out of sight -/
def SV.hid : SV → SV
  | .fz v => .fz v
  | _ => .un
/-- only the box is known -/
def SV.bxo : SV → SV
  | .bx n => .bx n
  | _ => .un
section
variable {c : Cn} {B : Addr → Prop} {F H : Hp} {σ : St} {ρ : Env'}
theorem SlotR.er {o : Option V} {s : SV} (h : SlotR c F H o s) : SlotR (c.at B) F H o s.er := by
  cases s with
  | un => trivial
  | fz v => obtain ⟨w, e, r⟩ := h; exact ⟨w, e, r.er⟩
  | ow xs => obtain ⟨p, vs, e, f, h, r⟩ := h; exact ⟨p, vs, e, f, h, r.er'⟩
  | bx n => exact h
theorem ER.map {c c' : Cn} {F F' H H' : Hp} {f : SV → SV} (e : ER c F H σ ρ) (s : Same F' H') (hf : ∀ (i : Nat) o t, σ[i]? = some o → ρ[i]? = some t → SlotR c F H o t → SlotR c' F' H' o (f t)) (ho : ∀ t, (f t).own = true → t.own = true) (mk : ∀ p, c'.B p → ∃ o, H' p = some o) : ER c' F' H' σ (ρ.map f) := by
  refine ⟨s, by rw [List.length_map]; exact e.len, fun i o t h1 h2 => ?_, fun i j t u p h1 h2 h3 h4 h5 h6 => ?_, mk⟩
  · rw [List.getElem?_map] at h2
    obtain ⟨x, e1, rfl⟩ := Option.map_eq_some_iff.mp h2
    exact hf i o x h1 e1 (e.slot i o x h1 e1)
  · rw [List.getElem?_map] at h3 h4
    obtain ⟨x, e1, rfl⟩ := Option.map_eq_some_iff.mp h3
    obtain ⟨y, e2, rfl⟩ := Option.map_eq_some_iff.mp h4
    exact e.dis i j x y p h1 h2 e1 e2 (ho _ h5) (ho _ h6)
theorem own_map {f : SV → SV} (ho : ∀ t, (f t).own = true → t.own = true) {p : Addr} (h : Own σ (ρ.map f) p) : Own σ ρ p := by
  obtain ⟨i, s, h1, h2, h3⟩ := h
  rw [List.getElem?_map] at h2
  obtain ⟨x, e1, rfl⟩ := Option.map_eq_some_iff.mp h2
  exact ⟨i, x, h1, e1, ho _ h3⟩
theorem ER.er (e : ER c F H σ ρ) (mk : ∀ p, B p → ∃ o, H p = some o) : ER (c.at B) F H σ (ρ.map SV.er) := e.map e.sub (fun _ _ _ _ _ h => h.er) (fun t h => by rw [SV.er_own] at h; exact h) mk
theorem own_er {p : Addr} (h : Own σ (ρ.map SV.er) p) : Own σ ρ p := own_map (fun t h => by rw [SV.er_own] at h; exact h) h
theorem bxo_own {t : SV} (h : t.bxo.own = true) : t.own = true := by cases t <;> first | rfl | cases h
theorem hid_own {t : SV} : t.hid.own = false := by cases t <;> rfl
end

/-! ### tests that may change a tagged node -/
/-- the value, is a tagged node changed, the slots -/
abbrev GH := Env' → Wp XE' (Bool × Option Addr × Env')
section
variable (c : Cn)
structure ThwE (σ : St) (ρ : Env') (F H : Hp) (q : Addr) (H' : Hp) : Prop where
  nB : ¬ c.B q
  nO : ¬ Own σ ρ q
  hh : ∀ p o, p ≠ q → H p = some o → H' p = some o
  ch : (∃ vs, F q = some (.lst vs) ∧ H' q = some (.lst (vs ++ [.int 7]))) ∨ (F q = some (.dK []) ∧ H' q = some (.dK [(.inr "more", .int 7)]))
def OkH (σ : St) (ρ : Env') (F H : Hp) (Q : Bool → Hp → Prop) : Bool × Option Addr × Env' → Prop := fun r => ∀ F1 H1, StpE c σ ρ F H r.2.2 F1 H1 → (r.2.1 = none → Q r.1 H1) ∧ (∀ q, r.2.1 = some q → ∀ H', ThwE c σ r.2.2 F1 H1 q H' → Q r.1 H')
def tH (W : WX) (g : GH) : TT := fun σ H Q => ∃ ρ F, ER c F H σ ρ ∧ (g ρ).run (OkH c σ ρ F H Q) (ErE c W σ ρ F H)
def tHE (W : WX) (g : GH) : TE := fun σ H Q => ∃ ρ F, ER c F H σ ρ ∧ (g ρ).run (OkH c σ ρ F H fun b H' => Q (.bl b) H') (ErE c W σ ρ F H)
end
def hT (g : GT) : GH := fun ρ => (g ρ).bind fun a => .ret (a.1, none, a.2)
def hAnd (g : GT) (h : GH) : GH := fun ρ => (g ρ).bind fun a => if a.1 = true then h a.2 else .ret (false, none, a.2)
def hAndE (g : GE) (h : GH) : GH := fun ρ => (g ρ).bind fun a => match a.1 with
  | .bl true => h a.2
  | .bl false => .ret (false, none, a.2)
  | _ => .stuck
def hOr (g : GT) (h : GH) : GH := fun ρ => (g ρ).bind fun a => if a.1 = true then .ret (true, none, a.2) else h a.2
def hNot (g : GH) : GH := fun ρ => (g ρ).bind fun a => .ret (!a.1, a.2.1, a.2.2)
def hIf (t : GT) (g : GT) (h : GH) : GH := fun ρ => (t ρ).bind fun a => if a.1 = true then hT g a.2 else h a.2
section
variable {c : Cn} {X : Cx} {W : WX} {pn : Nat → Bool} {e a b : Expr} {rest : List Expr} {pos : Pos} {g : GS} {gt gu : GT} {gh : GH} {σ : St} {ρ ρ1 : Env'} {F H F1 H1 : Hp}
theorem OkH.step {Q : Bool → Hp → Prop} {r : Bool × Option Addr × Env'} (s : StpE c σ ρ F H ρ1 F1 H1) (h : OkH c σ ρ F H Q r) : OkH c σ ρ1 F1 H1 Q r := fun F' H' q => h F' H' (s.trans q)
theorem vt_h (h : PT X a (tT c W gt)) : PT X a (tH c W (hT gt)) := imp_PT h fun σ H Q ⟨ρ, F, er, z⟩ => tT_bind er z fun v ρ1 F1 H1 st h1 => (h1 F1 H1 st).1 rfl
theorem vh_and1 (ha : PT X a (tH c W gh)) : PW X (.BoolOp .And [a] pos) (tH c W gh) := pw_and1 ha
theorem vh_or1 (ha : PT X a (tH c W gh)) : PW X (.BoolOp .Or [a] pos) (tH c W gh) := pw_or1 ha
theorem vh_and (ha : PT X a (tT c W gt)) (hb : PW X (.BoolOp .And (b :: rest) pos) (tH c W gh)) : PW X (.BoolOp .And (a :: b :: rest) pos) (tH c W (hAnd gt gh)) :=
  imp_PW (pw_and ha hb) fun σ H Q ⟨ρ, F, er, z⟩ => tT_bind er z fun v ρ1 F1 H1 st h1 => by
    cases v with
    | true => exact ⟨ρ1, F1, st.2, (gh ρ1).mono (fun r q => OkH.step st q) (fun _ q => q) h1⟩
    | false => exact (h1 F1 H1 st).1 rfl
theorem vh_or (ha : PT X a (tT c W gt)) (hb : PW X (.BoolOp .Or (b :: rest) pos) (tH c W gh)) : PW X (.BoolOp .Or (a :: b :: rest) pos) (tH c W (hOr gt gh)) :=
  imp_PW (pw_or ha hb) fun σ H Q ⟨ρ, F, er, z⟩ => tT_bind er z fun v ρ1 F1 H1 st h1 => by
    cases v with
    | false => exact ⟨ρ1, F1, st.2, (gh ρ1).mono (fun r q => OkH.step st q) (fun _ q => q) h1⟩
    | true => exact (h1 F1 H1 st).1 rfl
theorem vh_pw (h : PW X a (tH c W gh)) : PT X a (tH c W gh) := h.pt
theorem vh_not (h : PT X a (tH c W gh)) : PT X (.UnaryOp .Not a pos) (tH c W (hNot gh)) := imp_PT (pt_not h) fun σ H Q ⟨ρ, F, er, z⟩ =>
  ⟨ρ, F, er, (gh ρ).mono (fun r q => q) (fun _ q => q) z⟩
/-- a value that is a bool, as a test -/
theorem vh_val (ha : PE X a (tHE c W gh)) (he : ∀ whole, isTrue a X.env whole = (do let v ← whole; standAt a.pos; holding [v] (truthy v)) := by intro _; rfl) : PT X a (tH c W gh) :=
  imp_PT (pt_truth ha he) fun σ H Q ⟨ρ, F, er, z⟩ => ⟨ρ, F, er, (gh ρ).mono (fun r q F1 H1 st => ⟨fun e => ⟨_, rfl, (q F1 H1 st).1 e⟩, fun k e H' t => ⟨_, rfl, (q F1 H1 st).2 k e H' t⟩⟩) (fun _ q => q) z⟩
/-- a and .., as a value -/
theorem ve_hand1 {op} (h : PE X a (tHE c W gh)) : PE X (.BoolOp op [a] pos) (tHE c W gh) := pe_one h
theorem ve_hand {ga : GE} (ha : PE X a (tE c W ga)) (hb : PE X (.BoolOp .And (b :: rest) pos) (tHE c W gh)) : PE X (.BoolOp .And (a :: b :: rest) pos) (tHE c W (hAndE ga gh)) :=
  imp_PE (pe_and ha hb) fun σ H Q ⟨ρ, F, er, z⟩ => tE_bind er z fun v ρ1 w F1 H1 st rep h1 => by
    cases v with
    | bl k =>
      cases rep
      refine ⟨k, rfl, ?_⟩
      cases k with
      | true =>
        have h2 : (gh ρ1).run (OkH c σ ρ F H fun b H' => Q (.bl b) H') (ErE c W σ ρ1 F1 H1) := h1
        exact ⟨ρ1, F1, st.2, (gh ρ1).mono (fun r q => OkH.step st q) (fun _ q => q) h2⟩
      | false => exact (h1 F1 H1 st).1 rfl
    | _ => exact h1.elim
theorem ve_hE {ga : GE} (ha : PE X a (tE c W ga)) : PE X a (tHE c W (hT (gBl ga))) := imp_PE ha fun σ H Q ⟨ρ, F, er, z⟩ => tE_bind er z fun v ρ1 w F1 H1 st rep h1 => by
  cases v with
  | bl k => cases rep; exact (h1 F1 H1 st).1 rfl
  | _ => exact h1.elim
theorem ve_hif {t : Expr} {ga : GE} (ht : PT X t (tT c W gt)) (ha : PE X a (tE c W ga)) (hb : PE X b (tHE c W gh)) : PE X (.IfExp t a b pos) (tHE c W (hIf gt (gBl ga) gh)) :=
  imp_PE (pe_ifExp ht (ve_hE ha) hb) fun σ H Q ⟨ρ, F, er, z⟩ => tT_bind er z fun v ρ1 F1 H1 st h1 => by
    cases v with
    | true => exact ⟨ρ1, F1, st.2, (hT (gBl ga) ρ1).mono (fun r q => OkH.step st q) (fun _ q => q) h1⟩
    | false => exact ⟨ρ1, F1, st.2, (gh ρ1).mono (fun r q => OkH.step st q) (fun _ q => q) h1⟩

/-! ### .. in statements -/
mutual
/-- no list, no dict below -/
def flat : PV → Bool
  | .non => true | .bl _ => true | .int _ => true | .str _ => true | .any => true
  | .tup xs => flats xs
  | _ => false
def flats : List PV → Bool
  | [] => true
  | x :: xs => flat x && flats xs
end
mutual
theorem flat_rep {c : Cn} {F : Hp} {q : Addr} {ob : HO} (hq : ∀ vs, F q ≠ some (.tup vs)) : ∀ {v : V} {x : PV}, Rep c F v x → flat x = true → Rep c (upd F q ob) v x
  | _, _, .non, _ => .non
  | _, _, .bl b, _ => .bl b
  | _, _, .int i, _ => .int i
  | _, _, .str x, _ => .str x
  | _, _, .tup h r, e => .tup (by rw [upd_ne (fun z => by subst z; exact hq _ h)]; exact h) (flats_rep hq r (by unfold flat at e; exact e))
  | _, _, .any v, _ => .any v
  | _, _, .lst h r t, e => by unfold flat at e; cases e
  | _, _, .dic h r t, e => by unfold flat at e; cases e
  | _, _, .ins h r, e => by unfold flat at e; cases e
  | _, _, .scr h, e => by unfold flat at e; cases e
theorem flats_rep {c : Cn} {F : Hp} {q : Addr} {ob : HO} (hq : ∀ vs, F q ≠ some (.tup vs)) : ∀ {vs : List V} {xs : List PV}, Reps c F vs xs → flats xs = true → Reps c (upd F q ob) vs xs
  | _, _, .nil, _ => .nil
  | _, _, .cons h r, e => by
    unfold flats at e
    rw [Bool.and_eq_true] at e
    exact .cons (flat_rep hq h e.1) (flats_rep hq r e.2)
end
/-- what a value is made of: a scalar of a kind, or a node -/
def kindS : PV → Option Nat
  | .non => some 0 | .bl _ => some 1 | .int _ => some 2 | .str _ => some 3 | .any => none
  | _ => some 4
def apartK : Option Nat → Option Nat → Bool
  | some a, some b => !decide (a = b)
  | _, _ => false
/-- these items cannot be those -/
def apart : List PV → List PV → Bool
  | [], [] => false
  | y :: ys, x :: xs => apartK (kindS y) (kindS x) || apart ys xs
  | _, _ => true
theorem kindS_eq {c : Cn} {F : Hp} {v : V} {x y : PV} (a : Rep c F v x) (b : Rep c F v y) (h : apartK (kindS x) (kindS y) = true) : False := by
  cases a <;> cases b <;> first | (simp [kindS, apartK] at h; done) | cases h
theorem apart_no {c : Cn} {F : Hp} : ∀ {vs : List V} {ys xs : List PV}, apart ys xs = true → Reps c F vs ys → Reps c F vs xs → False
  | _, _, _, h, .nil, .nil => by cases h
  | _, _, _, h, .cons a r, .cons b t => by
    unfold apart at h
    rw [Bool.or_eq_true] at h
    rcases h with h | h
    · exact kindS_eq a b h
    · exact apart_no h r t
mutual
/-- no node below that could be the list of the items ws -/
def flatQ (ws : List PV) : PV → Bool
  | .non => true | .bl _ => true | .int _ => true | .str _ => true | .any => true
  | .tup xs => flatsQ ws xs
  | .lst _ xs => apart xs ws && flatsQ ws xs
  | _ => false
def flatsQ (ws : List PV) : List PV → Bool
  | [] => true
  | x :: xs => flatQ ws x && flatsQ ws xs
end
mutual
theorem flatQ_rep {c : Cn} {F : Hp} {q : Addr} {ob : HO} {us : List V} {ws : List PV} (hq : F q = some (.lst us)) (hw : Reps c F us ws) : ∀ {v : V} {x : PV}, Rep c F v x → flatQ ws x = true → Rep c (upd F q ob) v x
  | _, _, .non, _ => .non
  | _, _, .bl b, _ => .bl b
  | _, _, .int i, _ => .int i
  | _, _, .str x, _ => .str x
  | _, _, .tup h r, e => .tup (by rw [upd_ne (fun z => by subst z; rw [hq] at h; cases h)]; exact h) (flatsQ_rep hq hw r (by unfold flatQ at e; exact e))
  | _, _, .any v, _ => .any v
  | _, _, .lst (a := a) h r t, e => by
    unfold flatQ at e
    rw [Bool.and_eq_true] at e
    refine .lst ?_ (flatsQ_rep hq hw r e.2) t
    rw [upd_ne (fun z => by subst z; rw [hq] at h; cases h; exact apart_no e.1 r hw)]
    exact h
  | _, _, .dic h r t, e => by unfold flatQ at e; cases e
  | _, _, .ins h r, e => by unfold flatQ at e; cases e
  | _, _, .scr h, e => by unfold flatQ at e; cases e
theorem flatsQ_rep {c : Cn} {F : Hp} {q : Addr} {ob : HO} {us : List V} {ws : List PV} (hq : F q = some (.lst us)) (hw : Reps c F us ws) : ∀ {vs : List V} {xs : List PV}, Reps c F vs xs → flatsQ ws xs = true → Reps c (upd F q ob) vs xs
  | _, _, .nil, _ => .nil
  | _, _, .cons h r, e => by
    unfold flatsQ at e
    rw [Bool.and_eq_true] at e
    exact .cons (flatQ_rep hq hw h e.1) (flatsQ_rep hq hw r e.2)
end
/-- a slot behind the change of the node q -/
def thawS (q : Addr) : SV → SV
  | .bx n => .bx n
  | .fz (.lst (some a) xs) => if a = q ∧ flatsQ xs xs = true then .fz (.lst none (xs ++ [.int 7])) else .un
  | .fz (.dic (some a) []) => if a = q then .fz (.dic none [(.inr "more", .int 7)]) else .un
  | .fz v => if flat v = true then .fz v else .un
  | _ => .un
theorem thawS_own {q : Addr} {t : SV} (h : (thawS q t).own = true) : t.own = true := by
  cases t with
  | bx n => rfl
  | un => cases h
  | ow xs => cases h
  | fz v =>
    unfold thawS at h
    split at h
    · rename_i z; cases z
    · split at h <;> cases h
    · split at h <;> cases h
    · split at h <;> cases h
    · cases h
def sIfH (t : GH) (g : GS) : GS := fun ρ => (t ρ).bind fun b => match b.2.1 with
  | some q => if b.1 = true then .stuck else .ret (.th none (b.2.2.map (thawS q)))
  | none => if b.1 = true then g b.2.2 else .ret (.nx b.2.2)
def sRetH (t : GH) : GS := fun ρ => (t ρ).bind fun b => match b.2.1 with
  | some q => .ret (.th (some b.1) (b.2.2.map (thawS q)))
  | none => .ret (.rt (.bl b.1) b.2.2)
theorem ThwE.th {H' : Hp} {q : Addr} (t : ThwE c σ ρ F H q H') (p : Addr) (o : HO) (h : H p = some o) : ∃ o', H' p = some o' := by
  by_cases e : p = q
  · subst e
    rcases t.ch with ⟨_, _, z⟩ | ⟨_, z⟩ <;> exact ⟨_, z⟩
  · exact ⟨o, t.hh p o e h⟩
theorem thw_of {H' : Hp} {q : Addr} (er : ER c F H σ ρ) (t : ThwE c σ ρ F H q H') : Thw c pn σ ρ H σ (ρ.map (thawS q)) H' where
  hh := fun p o h n b => t.hh p o (fun e => t.nB (by rw [← e]; exact b)) h
  th := t.th
  ow := fun p h => .inl (own_map (fun _ => thawS_own) h)
  er := by
    obtain ⟨ob, hob, hq⟩ : ∃ ob, H' q = some ob ∧ ∀ vs, F q ≠ some (.tup vs) := by
      rcases t.ch with ⟨vs, h1, h2⟩ | ⟨h1, h2⟩
      · exact ⟨_, h2, fun us z => by rw [h1] at z; cases z⟩
      · exact ⟨_, h2, fun us z => by rw [h1] at z; cases z⟩
    have hfl : ∀ {w v}, flat v = true → Rep c F w v → SlotR c (upd F q ob) H' (some w) (.fz v) := fun {w v} e r => ⟨w, rfl, flat_rep hq r e⟩
    refine ⟨upd F q ob, er.map (fun p o h => ?_) (fun i o s h1 h2 h => ?_) (fun _ => thawS_own) fun p b => (er.mrk p b).elim fun o h => t.th p o h⟩
    · by_cases e : p = q
      · subst e; rw [upd_same] at h; cases h; exact hob
      · rw [upd_ne e] at h; exact t.hh p o e (er.sub p o h)
    · cases s with
      | un => trivial
      | ow xs => trivial
      | bx n =>
        obtain ⟨p, vs, e, f, hp, r⟩ := h
        subst e
        have ne : p ≠ q := fun z => t.nO (by subst z; exact ⟨i, _, h1, h2, rfl⟩)
        exact ⟨p, vs, rfl, by rw [upd_ne ne]; exact f, t.hh p _ ne hp, r⟩
      | fz v =>
        obtain ⟨w, rfl, r⟩ := h
        unfold thawS
        split
        · rename_i z; cases z
        · rename_i a xs z
          cases z
          split
          · rename_i hc
            obtain ⟨rfl, hf⟩ := hc
            cases r with
            | lst g r tg =>
              obtain ⟨rfl, _⟩ := tg a rfl
              rcases t.ch with ⟨vs, k1, k2⟩ | ⟨k1, k2⟩
              · rw [g] at k1
                cases k1
                rw [k2] at hob
                cases hob
                exact ⟨_, rfl, .lst upd_same (Reps.append (flatsQ_rep g r r hf) (.cons (.int 7) .nil)) (fun _ z => nomatch z)⟩
              · rw [g] at k1; cases k1
          · trivial
        · rename_i a z
          cases z
          split
          · rename_i hc
            subst hc
            cases r with
            | dic g r tg =>
              obtain ⟨rfl, _⟩ := tg a rfl
              rcases t.ch with ⟨vs, k1, k2⟩ | ⟨k1, k2⟩
              · rw [g] at k1; cases k1
              · rw [k2] at hob
                cases hob
                exact ⟨_, rfl, .dic upd_same (.cons (.int 7) .nil) (fun _ z => nomatch z)⟩
          · trivial
        · split
          · rename_i z hc hf
            cases hc
            exact hfl hf r
          · trivial
        · trivial
  pn := fun _ _ => rfl
  len := rfl
theorem tH_bindS {k : Bool × Option Addr × Env' → Wp XE' Out} {D : Ends} {R : Bool → Hp → Prop} (er : ER c F H σ ρ) (h : ((gh ρ).bind k).run (OkS c pn σ ρ F H D) (ErS c pn W σ ρ F H))
    (hk : ∀ r F1 H1, StpE c σ ρ F H r.2.2 F1 H1 → (k r).run (OkS c pn σ r.2.2 F1 H1 D) (ErS c pn W σ r.2.2 F1 H1) → (r.2.1 = none → R r.1 H1) ∧ (∀ q, r.2.1 = some q → ∀ H', ThwE c σ r.2.2 F1 H1 q H' → R r.1 H')) : tH c W gh σ H R :=
  ⟨ρ, F, er, (gh ρ).mono (fun r h1 F1 H1 st => hk r F1 H1 st (run_stepS st.s h1)) (fun _ z => z.e) h⟩
theorem vs_ifH {p : List Stmt} (ht : PT X a (tH c W gh)) (h1 : PSs X p (tS c pn W g)) : PS X (.If a p [] pos) (tS c pn W (sIfH gh g)) :=
  imp_PS (ps_if ht h1 pss_nil) fun D σ H ⟨ρ, F, er, z⟩ => tH_bindS er z fun r F1 H1 st q => by
    obtain ⟨b, t, ρ1⟩ := r
    cases t with
    | some k => cases b with
      | true => exact q.elim
      | false => exact ⟨(fun z => nomatch z), fun k' e H' t => by
          cases e
          exact ((show OkS c pn σ ρ1 F1 H1 D (.th none (ρ1.map (thawS k))) from q) σ H' (thw_of st.2 t)).1 rfl⟩
    | none => cases b with
      | true => exact ⟨fun _ => ⟨ρ1, F1, st.2, q⟩, (fun _ z => nomatch z)⟩
      | false => exact ⟨fun _ => (show OkS c pn σ ρ1 F1 H1 D (.nx ρ1) from q) σ F1 H1 (StpS.refl st.2), fun _ z => nomatch z⟩
theorem vs_retH (he : PE X a (tHE c W gh)) : PS X (.Return (some a) pos) (tS c pn W (sRetH gh)) :=
  imp_PS (ps_ret he) fun D σ H ⟨ρ, F, er, z⟩ => (tH_bindS er z fun r F1 H1 st q => by
    obtain ⟨b, t, ρ1⟩ := r
    cases t with
    | some k => exact ⟨(fun z => nomatch z), fun k' e H' t => by
        cases e
        exact ((show OkS c pn σ ρ1 F1 H1 D (.th (some b) (ρ1.map (thawS k))) from q) σ H' (thw_of st.2 t)).2 b rfl⟩
    | none => exact ⟨fun _ => (show OkS c pn σ ρ1 F1 H1 D (.rt (.bl b) ρ1) from q) (.bl b) σ F1 H1 (StpS.refl st.2) (.bl b), fun _ z => nomatch z⟩)
end
/-! ### defs that end so -/
@[simp] theorem noE_ret {ε ε' α : Type} (a : α) : (noE (.ret a : Wp ε α) : Wp ε' α) = .ret a := (rfl)
@[simp] theorem noE_bind {ε ε' α β : Type} (m : Wp ε α) (f : α → Wp ε β) : (noE (m.bind f) : Wp ε' β) = (noE m).bind fun a => noE (f a) := (rfl)
@[simp] theorem noE_stuck {ε ε' α : Type} : (noE (.stuck : Wp ε α) : Wp ε' α) = .stuck := (rfl)
theorem er_own' {s : SV} : s.er.own = s.own := SV.er_own s
def fnT (n : Nat) (pn : Nat → Bool) (g : GS) : GF := fun ss => if pinned pn ss = true then (noE (g (ss.map SV.er ++ List.replicate (n - ss.length) .un))).bind fun o => match o with
  | .nx ρ => .ret (.non, (outs ss ρ).map SV.er)
  | .rt v ρ => .ret (v.er, (outs ss ρ).map SV.er)
  | .th (some b) ρ => .ret (.bl b, (outs ss (ρ.map SV.bxo)).map SV.er)
  | _ => .stuck
  else .stuck
section
variable {c : Cn} {pn : Nat → Bool} {F H F' H' : Hp}
theorem at_at {B B' : Addr → Prop} : (c.at B).at B' = c.at B' := rfl
theorem at_self : c.at c.B = c := rfl
theorem outs_er : ∀ (ss : List SV) (ρ : Env'), outs (ss.map SV.er) ρ = outs ss ρ
  | [], _ => rfl
  | s :: ss, ρ => by simp only [List.map_cons, outs, SV.er_own, outs_er ss]
theorem pinned_er {ss : List SV} (h : pinned pn ss = true) : pinned pn (ss.map SV.er) = true := by
  unfold pinned at h ⊢
  rw [List.length_map]
  refine List.all_eq_true.mpr fun i hi => ?_
  have q := List.all_eq_true.mp h i hi
  rw [List.getElem?_map]
  cases e : ss[i]? with
  | none => rfl
  | some s => rw [e] at q; simpa [SV.er_own] using q
theorem StpE.at {B B' : Addr → Prop} {σ : St} {ρ ρ' : Env'} (mk : ∀ p, B' p → ∃ o, H p = some o) (s : StpE (c.at B) σ (ρ.map SV.er) F H ρ' F' H') : StpE (c.at B') σ ρ F H (ρ'.map SV.er) F' H' :=
  ⟨⟨s.1.ff, fun p o h n => s.1.hh p o h fun z => n (own_er z), s.1.th, fun p h => (s.1.ow p (own_er h)).imp own_er id⟩, by have q := s.2.er (B := B') fun p b => (mk p b).elim fun o h => s.1.th p o h; exact q⟩
theorem fnT_ok {P : Program} {w : World} {K : PySem.W.Frag} {mg : Str → Option Value} {base : Heap} {x qual : Str} {st : Stmt} {f : Addr} {fd : FuncData} {N ps : List Str} {k n : Nat} {g : GS} (hk : c.K = K) (Fn : Fun K x qual st f fd) (S : FnScope N ps (defScope st)) (hn : ps.length = n) (hl : ps.length ≤ N.length)
    (hbody : ∀ (B : Addr → Prop) (cdv : Value) (A : Around) (outer : List Env) (s : Shared) (H : Hp) (E : XK), Room k (A.deeper (envOfC qual (defScope st) s.heap.objs.size f cdv)) →
      PSs (cxOf (L2.CX P w) P w K mg base N qual (defScope st) f cdv A outer s H E) (defBody st) (tS (c.at B) pn (fun cls d _ H' => E cls d H') g)) : FnOk P w K mg base (L2.CX P w) (k + 1) f fd ps (SpV c n (fnT N.length pn g)) := by
  refine Fn.okX S (fun vs H Q E h => h.1.trans hn.symm) (fun cdv A outer s H vs Q E hr h => ⟨_, hbody (fun a => H a ≠ none) cdv A outer s H E hr, ?_⟩)
  obtain ⟨hv, F, ss, er, z⟩ := h
  have hvl : vs.length ≤ N.length := by omega
  unfold fnT at z
  by_cases hp : pinned pn ss = true
  · rw [if_pos hp] at z
    have er' : ER (c.at fun a => H a ≠ none) F H (vs.map some) (ss.map SV.er) := er.er fun p b => by
      cases e : H p with
      | none => exact absurd e b
      | some o => exact ⟨o, rfl⟩
    have hp' := pinned_er hp
    obtain ⟨er0, ow0⟩ := er_enter er' hvl
    rw [List.length_map] at er0 ow0
    have leave : ∀ {σ' ρ' F' H'}, StpS (c.at fun a => H a ≠ none) pn (L2.start N vs) (ss.map SV.er ++ List.replicate (N.length - ss.length) .un) F H σ' ρ' F' H' → StpE c (vs.map some) ss F H ((outs ss ρ').map SV.er) F' H' := fun {σ' ρ' F' H'} s => by
      have q := er_leave er' hvl hp' (by rw [List.length_map]; exact s)
      rw [outs_er] at q
      exact q.at (B' := c.B) er.mrk
    refine ⟨_, F, er0, (g _).mono (fun o q => ?_) (fun e q => q.elim) z⟩
    cases o with
    | nx ρ' => exact fun σ' F' H' s' => q .non F' H' (leave s') .non
    | rt v ρ' => exact fun w σ' F' H' s' rp => q w F' H' (leave s') (rp.er (B := c.B))
    | bk ρ' => exact q.elim
    | ct ρ' => exact q.elim
    | th o ρ' => cases o with
      | none => exact q.elim
      | some b =>
        refine fun σ' H' t => ⟨(fun z => nomatch z), fun b' e => ?_⟩
        cases e
        have nO : ∀ p o, F p = some o → ¬ Own (vs.map some) ss p := fun p o h z => by
          rw [(Own.tracked er z).1] at h
          cases h
        have nO' : ∀ p, ¬ Own (vs.map some) ss p → ¬ Own (L2.start N vs) (ss.map SV.er ++ List.replicate (N.length - ss.length) .un) p := fun p n z => n (own_er ((ow0 p).mp z))
        have stp : StpS (c.at fun a => H a ≠ none) pn (L2.start N vs) (ss.map SV.er ++ List.replicate (N.length - ss.length) .un) F H σ' (ρ'.map SV.bxo) F H' := by
          have hb : ∀ p o, H p = some o → ¬ Own (L2.start N vs) (ss.map SV.er ++ List.replicate (N.length - ss.length) .un) p → H' p = some o := fun p o h n => t.hh p o h n (by intro z; rw [z] at h; cases h)
          have sub : Same F H' := fun p o h => hb p o (er.sub p o h) (nO' p (nO p o h))
          obtain ⟨F9, er9⟩ := t.er
          refine ⟨⟨Same.refl F, fun p o h n => ⟨hb p o h n, fun z => z⟩, t.th, fun p h => t.ow p (own_map (fun _ => bxo_own) h)⟩, ⟨sub, by rw [List.length_map]; exact er9.len, fun i o s h1 h2 => ?_, fun i j u v p h1 h2 h3 h4 h5 h6 => ?_, er9.mrk⟩, t.pn, t.len⟩
          · rw [List.getElem?_map] at h2
            obtain ⟨y, e1, rfl⟩ := Option.map_eq_some_iff.mp h2
            cases y with
            | bx n =>
              obtain ⟨p, us, e, _, hq, r⟩ := er9.slot i o _ h1 e1
              subst e
              refine ⟨p, us, rfl, ?_, hq, r⟩
              rcases t.ow p ⟨i, _, h1, e1, rfl⟩ with z | z
              · exact (Own.tracked er (own_er ((ow0 p).mp z))).1
              · exact er.sub.free z
            | _ => trivial
          · rw [List.getElem?_map] at h3 h4
            obtain ⟨y, e1, rfl⟩ := Option.map_eq_some_iff.mp h3
            obtain ⟨y', e2, rfl⟩ := Option.map_eq_some_iff.mp h4
            exact er9.dis i j y y' p h1 h2 e1 e2 (bxo_own h5) (bxo_own h6)
        exact q (.bl b) F H' (leave stp) (.bl b)
  · rw [if_neg hp] at z
    exact z.elim
end
end VL

set_option Elab.async false
set_option linter.all false
set_option maxRecDepth 100000
set_option maxHeartbeats 1000000
/-! VL, part 13: a list or dict handed over and changed; recursion; new lists of defs; the box. -/
namespace VL
open PySem PySem.Spec PyProof.Rows L2

/-! ### a def of which nothing is asked -/
section
variable {c : Cn} {P : Program} {w : World} {K : PySem.W.Frag} {mg : Str → Option Value} {base : Heap} {x qual : Str} {st : Stmt} {f : Addr} {fd : FuncData} {N ps : List Str} {k n : Nat}
def fNo : GF := fun _ => .stuck
theorem pss_no {X : Cx} {p : List Stmt} : PSs X p (fun _ _ _ => False) := ⟨fun _ _ _ _ _ _ h => h.elim⟩
theorem fn_no (Fn : Fun K x qual st f fd) (S : FnScope N ps (defScope st)) (hn : ps.length = n) : FnOk P w K mg base (L2.CX P w) (k + 1) f fd ps (SpV c n fNo) :=
  Fn.okX S (fun vs H Q E h => h.1.trans hn.symm) fun cdv A outer s H vs Q E hr h => by
    obtain ⟨_, F, ss, er, z⟩ := h
    exact z.elim
end

/-! ### d.get(k) -/
def eDGet (g h : GE) : GE := fun ρ => (g ρ).bind fun a => match a.1 with
  | .dic _ kvs => (h a.2).bind fun b => match keyP b.1 with
    | some k => .ret ((valP kvs k).getD .non, b.2)
    | none => .stuck
  | _ => .stuck
section
variable {c : Cn} {X : Cx} {W : WX} {pn : Nat → Bool} {a b o e : Expr} {ga gb : GE} {pos p apos : Pos}
theorem RepD.valP {F : Hp} {k : Key} : ∀ {vs : List (Key × V)} {xs : List (Key × PV)}, RepD c F vs xs → Rep c F ((valV vs k).getD .non) ((valP xs k).getD .non)
  | _, _, .nil => .non
  | _, _, @RepD.cons _ _ k' v x vs xs h r => by
    by_cases e : k' = k
    · rw [valV_pos (show (k', v).1 = k from e)]
      have q : VL.valP ((k', x) :: xs) k = some x := by simp [VL.valP, List.find?_cons, e]
      rw [q]
      exact h
    · rw [valV_neg (show ¬ (k', v).1 = k from e)]
      have q : VL.valP ((k', x) :: xs) k = VL.valP xs k := by simp [VL.valP, List.find?_cons, e]
      rw [q]
      exact RepD.valP r
theorem ve_dget1 (hu : X.A.units + 1 < cLine) (ho : PE X o (tE c W ga)) (he : PE X e (tE c W gb)) (m : M1 X o "get" apos e pos) : PE X (.Call (.Attribute o "get" apos) [e] [] pos) (tE c W (eDGet ga gb)) :=
  imp_PE (pe_dget1 hu ho he m) fun σ H Q ⟨ρ, F, er, z⟩ => tE_bind er z fun v ρ1 w F1 H1 st rep h1 => by
    cases rep with
    | dic h r t =>
      refine ⟨_, rfl, .inl ⟨_, .inl (st.2.sub _ _ h)⟩, tE_bind st.2 h1 fun u ρ2 y F2 H2 st2 rep2 h2 => ?_⟩
      dsimp only at h2
      split at h2
      · rename_i k hk
        have ey := keyP_ok rep2 hk
        subst ey
        exact ⟨_, .k (st2.2.sub _ _ (st2.1.ff _ _ h)), h2 _ F2 H2 (st.trans st2) (RepD.valP (r.mono st2.1.ff))⟩
      · exact h2.elim
    | _ => exact h1.elim

/-! ### what is handed over is changed -/
def tAppX (i : Nat) : TS := fun D σ H => ∃ p vs, σ[i]? = some (some (.ref p)) ∧ H p = some (.lst vs) ∧ vs.length < sizeLine ∧ D.nx σ (upd H p (.lst (vs ++ [.int 7])))
def tPutX (i : Nat) : TS := fun D σ H => ∃ p, σ[i]? = some (some (.ref p)) ∧ H p = some (.dK []) ∧ D.nx σ (upd H p (.dK [(.inr "more", .int 7)]))
theorem vx_app {i j : Nat} {kpos : Pos} (ho : PE X o (tVar i)) (hbase : attributeBase o "append" X.env (eval o X.env) = eval o X.env := by rfl)
    (hfew : ((backTo p (starEach [.Constant (.int 7) j kpos] X.env)).all (fun x => !x.1) && (backToKw p (keywordEach [] X.env)).all (fun x => x.1.isSome) && decide ([Expr.Constant (.int 7) j kpos].length + ([] : List Keyword).length + (if ([] : List Keyword).isEmpty then 0 else 1) < 30)) = true := by rfl)
    (hline : (apos.endLine == p.line) = true := by rfl) (hs : starEach [.Constant (.int 7) j kpos] X.env = (false, eval (.Constant (.int 7) j kpos) X.env) :: starEach [] X.env := by rfl) (hsw : swapsWith (.Call (.Attribute o "append" apos) [.Constant (.int 7) j kpos] [] p) none pos.line X.env = pure false := by rfl) :
    PS X (.Expr (.Call (.Attribute o "append" apos) [.Constant (.int 7) j kpos] [] p) pos) (tAppX i) :=
  imp_PS (ps_expr (pe_bm PySem.F.plainAttrs_list PySem.F.slot_list_append PySem.F.type_list_append mt_append ho (pa_cons pe_int pa_nil hs) hbase hfew hline hs) hsw) fun D σ H ⟨p, vs, h1, h2, h3, h4⟩ =>
    ⟨.ref p, h1, .inl ⟨rfl, _, SqL.of h2⟩, p, vs, .int 7, rfl, rfl, h2, h3, h4⟩
theorem vx_put {i j j2 : Nat} {kpos vpos tpos : Pos} (hu : X.A.units + 1 < cLine) (ho : PE X o (tVar i))
    (ha : ∀ v, assign (.Subscript o (.Constant (.str "more") j kpos) tpos) X.env v = (do
      let ov ← holding [v] (eval o X.env)
      let iv ← holding [v, ov] (eval (.Constant (.str "more") j kpos) X.env)
      standAt tpos
      holding [v, ov, iv] (setItem ov iv v)
      release [v, ov, iv] []) := by intro _; rfl)
    (hs : swapsWithSole [.Subscript o (.Constant (.str "more") j kpos) tpos] (.Constant (.int 7) j2 vpos) pos.line X.env = pure false := by rfl) (hw : swappedStores [.Subscript o (.Constant (.str "more") j kpos) tpos] (.Constant (.int 7) j2 vpos) X.env = pure none := by rfl)
    (h1 : (assignEach [.Subscript o (.Constant (.str "more") j kpos) tpos] X.env).map (·.2) = [assign (.Subscript o (.Constant (.str "more") j kpos) tpos) X.env] := by rfl) :
    PS X (.Assign [.Subscript o (.Constant (.str "more") j kpos) tpos] (.Constant (.int 7) j2 vpos) pos) (tPutX i) :=
  imp_PS (ps_asg pe_int (pg_sub ho pe_str (set_dict hu) ha) hs hw h1) fun D σ H ⟨p, h1, h2, h3⟩ =>
    ⟨.ref p, h1, p, _, rfl, .k (k := .inr "more") h2 (by rw [sizeLine_eq]; decide), h3⟩

/-- told and passed: the same object, changed; else told by the law's own comparison -/
def SpVery (c : Cn) (m : GF) : Sp := fun vs H Q E => vs.length = 2 ∧ ∃ w x told passed F, vs = [w, x] ∧ Same F H ∧ (∀ p, c.B p → ∃ o, H p = some o) ∧ Rep c F w told ∧ Rep c F x passed ∧ match passed with
  | .lst g xs => ∃ p ys, g = some p ∧ told = .lst (some p) ys ∧ xs.length < sizeLine ∧ ∀ H', (∀ q o, q ≠ p → H q = some o → H' q = some o) → (∃ vs, F p = some (.lst vs) ∧ H' p = some (.lst (vs ++ [.int 7]))) → Q (.bl true) H'
  | .dic g xs => ∃ p ys, g = some p ∧ told = .dic (some p) ys ∧ xs = [] ∧ ∀ H', (∀ q o, q ≠ p → H q = some o → H' q = some o) → H' p = some (.dK [(.inr "more", .int 7)]) → Q (.bl true) H'
  | _ => (∃ t, tyN passed = some t) ∧ (m [.fz told, .fz passed]).run (fun r => ∀ u F' H', Grow F H F' H' → Rep c F' u r.1 → Q u H') (fun e => ∀ d F' H', Grow F H F' H' → ExD c F' H' d e.1.fs → E (.ref (c.cA e.1.k)) d H')
def veryL (m : GF) : GE := eAnd (eOp1 (pIsi "list") (eVar 0)) (eAnd (eOp2 pEq (eOp1 pLen (eVar 0)) (eOp1 pLen (eVar 1))) (eCall m (aCons (eOp2 pIx (eVar 0) (eOp1 pNeg (eC (.int 1)))) (aCons (eC (.int 7)) aNil))))
def veryD (m : GF) : GE := eAnd (eOp1 (pIsi "dict") (eVar 0)) (eAnd (eOp2 pEq (eOp1 pLen (eVar 0)) (eOp1 pLen (eVar 1))) (eCall m (aCons (eDGet (eVar 0) (eC (.str "more"))) (aCons (eC (.int 7)) aNil))))
def veryS (m : GF) : GE := eCall m (aCons (eVar 0) (aCons (eVar 1) aNil))
structure VeryD (c : Cn) (m : GF) (X : Cx) (W : WX) (body : List Stmt) : Prop where
  ex : ∃ t1 a1 r1 p1 t2 a2 r2 p2 r3, body = [.If t1 [a1, r1] [] p1, .If t2 [a2, r2] [] p2, r3] ∧ PT X t1 (tT c W (gVal (eOp1 (pIsi "list") (eVar 1)))) ∧ PS X a1 (tAppX 1) ∧ PS X r1 (tS c noPin W (sRet (veryL m))) ∧
    PT X t2 (tT c W (gVal (eOp1 (pIsi "dict") (eVar 1)))) ∧ PS X a2 (tPutX 1) ∧ PS X r2 (tS c noPin W (sRet (veryD m))) ∧ PS X r3 (tS c noPin W (sRet (veryS m)))
theorem reps_any : ∀ (vs : List V) {F : Hp}, Reps c F vs (vs.map fun _ => PV.any)
  | [], _ => .nil
  | v :: vs, F => .cons (.any v) (reps_any vs)
/-- the only thing known is what stands at p -/
def only (p : Addr) (o : HO) : Hp := upd (fun _ => none) p o
theorem only_same {p : Addr} {o : HO} {H : Hp} (h : H p = some o) : Same (only p o) H := fun b u e => by
  by_cases hb : b = p
  · subst hb; unfold only at e; rw [upd_same] at e; rw [h]; exact e
  · unfold only at e; rw [upd_ne hb] at e; cases e
theorem er_two {F H : Hp} {w x : V} {a b : PV} (s : Same F H) (mk : ∀ p, c.B p → ∃ o, H p = some o) (ra : Rep c F w a) (rb : Rep c F x b) : ER c F H [some w, some x] [.fz a, .fz b] := Reps.er s mk (Reps.cons ra (.cons rb .nil))
theorem own_two {w x : V} {a b : PV} {p : Addr} : ¬ Own [some w, some x] [.fz a, .fz b] p := fzs_own (xs := [a, b])
theorem outs_two {a b : PV} {ρ : Env'} : outs [.fz a, .fz b] ρ = [.un, .un] := rfl
def VL0 (n : Nat) : List SV := [.fz (.lst none (List.replicate n .any ++ [.int 7])), .fz (.lst none (List.replicate n .any ++ [.int 7]))]
def VD0 : List SV := [.fz (.dic none [(.inr "more", .int 7)]), .fz (.dic none [(.inr "more", .int 7)])]
/-- the answers of the comparison at 7 -/
structure Very7 (m : GF) : Prop where
  l : ∀ n K E, n < sizeLine → K (.bl true, VL0 n) → (veryL m (VL0 n)).run K E
  d : ∀ K E, K (.bl true, VD0) → (veryD m VD0).run K E
theorem isT_run {T : String} {b : Bool} {σ : St} {F H : Hp} {told passed : PV} {Q : Bool → Hp → Prop} (er : ER c F H σ [.fz told, .fz passed]) (e : isT T passed = some b) (h : ∀ F' H', StpE c σ [.fz told, .fz passed] F H [.fz told, .fz passed] F' H' → Q b H') :
    tT c W (gVal (eOp1 (pIsi T) (eVar 1))) σ H Q := by
  refine ⟨_, F, er, ?_⟩
  have q : gVal (eOp1 (pIsi T) (eVar 1)) [.fz told, .fz passed] = .ret (b, [.fz told, .fz passed]) := by
    unfold gVal eOp1 pIsi
    simp [eVar, e, truth]
  rw [q]
  exact h
theorem very_after {m : GF} {g : GE} {w x : V} {p : Addr} {ob : HO} {T : PV} {H H' : Hp} {Q : VK} (hT : Rep c (only p ob) (.ref p) T) (hH : H' p = some ob) (grow : ∀ q o, q ≠ p → H q = some o → H' q = some o) (hw : w = .ref p) (hx : x = .ref p)
    (hg : ∀ K E, K (.bl true, [.fz T, .fz T]) → (g [.fz T, .fz T]).run K E) (mk : ∀ p, c.B p → ∃ o, H p = some o) (hQ : ∀ H', (∀ q o, q ≠ p → H q = some o → H' q = some o) → H' p = some ob → Q (.bl true) H') {nx : St → Hp → Prop} {bk ct : St → Hp → Prop} :
    tS c noPin W (sRet g) { nx := nx, rt := Q, bk := bk, ct := ct } [some w, some x] H' := by
  subst hw
  subst hx
  refine ⟨[.fz T, .fz T], only p ob, er_two (only_same hH) (fun a b => by
    by_cases e : a = p
    · subst e; exact ⟨_, hH⟩
    · obtain ⟨o, h⟩ := mk a b; exact ⟨o, grow a o e h⟩) hT hT, hg _ _ fun w' σ' F' H2 st rp => ?_⟩
  cases rp
  exact hQ H2 (fun q o n h => (st.1.hh q o (grow q o n h) own_two).1) (st.1.hh p _ hH own_two).1
theorem very_body {m : GF} {body : List Stmt} (M : Very7 m) (B : VeryD c m X W body) (w x : V) : ∃ t, PSs X body t ∧ ∀ (H : Hp) (Q : VK) (E : XK), (W = fun cls d _ H' => E cls d H') → SpVery c m [w, x] H Q E → t { nx := fun _ H' => Q .non H', rt := Q } [some w, some x] H := by
  obtain ⟨t1, a1, r1, p1, t2, a2, r2, p2, r3, rfl, d1, d2, d3, d4, d5, d6, d7⟩ := B.ex
  refine ⟨_, pss_cons (ps_if d1 (pss_cons d2 (vss_one d3)) pss_nil) (pss_cons (ps_if d4 (pss_cons d5 (vss_one d6)) pss_nil) (vss_one d7)), fun H Q E hW h => ?_⟩
  obtain ⟨_, w', x', told, passed, F, e, s, mk, rt, rp, h⟩ := h
  cases e
  have er := er_two s mk rt rp
  have other : isT "list" passed = some false → isT "dict" passed = some false → (m [.fz told, .fz passed]).run (fun r => ∀ u F' H', Grow F H F' H' → Rep c F' u r.1 → Q u H') (fun e => ∀ d F' H', Grow F H F' H' → ExD c F' H' d e.1.fs → E (.ref (c.cA e.1.k)) d H') →
      tSeq (tIfS (tT c W (gVal (eOp1 (pIsi "list") (eVar 1)))) (tSeq (tAppX 1) (tS c noPin W (sRet (veryL m)))) tNext) (tSeq (tIfS (tT c W (gVal (eOp1 (pIsi "dict") (eVar 1)))) (tSeq (tPutX 1) (tS c noPin W (sRet (veryD m)))) tNext) (tS c noPin W (sRet (veryS m)))) { nx := fun _ H' => Q .non H', rt := Q } [some w, some x] H := fun e1 e2 h => by
    refine isT_run er e1 fun F1 H1 st1 => ?_
    rw [if_neg Bool.false_ne_true]
    refine isT_run st1.2 e2 fun F2 H2 st2 => ?_
    rw [if_neg Bool.false_ne_true]
    have st := st1.trans st2
    have gr : ∀ {σ' F' H'}, StpS c noPin [some w, some x] [.fz told, .fz passed] F2 H2 σ' [.fz told, .fz passed] F' H' → Grow F H F' H' := fun {σ' F' H'} s' =>
      ⟨st.1.ff.trans s'.1.ff, fun p o q => (s'.1.hh p o (st.1.hh p o q own_two).1 own_two).1, s'.2.1.sub, fun p o q z => (s'.1.hh p o (st.1.hh p o q own_two).1 own_two).2 ((st.1.hh p o q own_two).2 z)⟩
    refine ⟨_, F2, st.2, (m [.fz told, .fz passed]).mono (fun r q w' σ' F' H' s' rp' => q w' F' H' (gr s') rp') (fun e q d σ' F' H' s' ex => ?_) h⟩
    rw [hW]
    exact q d F' H' (gr s') ex
  cases rp with
  | @lst p vs g xs hF r t =>
    obtain ⟨p', ys, rfl, rfl, hz, hQ⟩ := h
    obtain ⟨rfl, hB⟩ := t p' rfl
    have hl : vs.length = xs.length := r.length
    refine isT_run er (by rfl : isT "list" (.lst (some p') xs) = some true) fun F1 H1 st1 => ?_
    rw [if_pos rfl]
    have hp1 : H1 p' = some (.lst vs) := (st1.1.hh p' _ (s _ _ hF) own_two).1
    have hw : w = .ref p' := by
      cases rt with
      | lst h1 r1 t1 => rw [(t1 p' rfl).1]
    refine ⟨p', vs, rfl, hp1, by rw [hl]; exact hz, ?_⟩
    refine very_after (m := m) (H := H) (T := .lst none (List.replicate vs.length .any ++ [.int 7])) (.lst upd_same (Reps.append (by have := reps_any (c := c) vs (F := only p' (.lst (vs ++ [V.int 7]))); rwa [List.map_const'] at this) (.cons (.int 7) .nil)) (fun _ z => nomatch z)) upd_same (fun q o n h => ?_) hw rfl (fun K E hK => M.l vs.length K E (by omega) hK) mk fun H' g1 g2 => hQ H' g1 ⟨vs, hF, g2⟩
    rw [upd_ne n]
    exact (st1.1.hh q o h own_two).1
  | @dic p vs g xs hF r t =>
    obtain ⟨p', ys, rfl, rfl, rfl, hQ⟩ := h
    obtain ⟨rfl, hB⟩ := t p' rfl
    cases r
    refine isT_run er (by rfl : isT "list" (.dic (some p') []) = some false) fun F1 H1 st1 => ?_
    rw [if_neg Bool.false_ne_true]
    refine isT_run st1.2 (by rfl : isT "dict" (.dic (some p') []) = some true) fun F2 H2 st2 => ?_
    rw [if_pos rfl]
    have st := st1.trans st2
    have hp1 : H2 p' = some (.dK []) := (st.1.hh p' _ (s _ _ hF) own_two).1
    have hw : w = .ref p' := by
      cases rt with
      | dic h1 r1 t1 => rw [(t1 p' rfl).1]
    refine ⟨p', rfl, hp1, ?_⟩
    refine very_after (m := m) (H := H) (T := .dic none [(.inr "more", .int 7)]) (.dic upd_same (.cons (.int 7) .nil) (fun _ z => nomatch z)) upd_same (fun q o n h => ?_) hw rfl M.d mk hQ
    rw [upd_ne n]
    exact (st.1.hh q o h own_two).1
  | any v => obtain ⟨⟨t, e⟩, _⟩ := h; cases e
  | ins h1 r1 => obtain ⟨⟨t, e⟩, _⟩ := h; cases e
  | scr h1 => obtain ⟨⟨t, e⟩, _⟩ := h; cases e
  | _ => exact other rfl rfl h.2
theorem very_ok {P : Program} {w : World} {K : PySem.W.Frag} {mg : Str → Option Value} {base : Heap} {x qual : Str} {st : Stmt} {f : Addr} {fd : FuncData} {k : Nat} {m : GF} (M : Very7 m) (Fn : Fun K x qual st f fd) (S : FnScope ["told", "passed"] ["told", "passed"] (defScope st))
    (hbody : ∀ (cdv : Value) (A : Around) (outer : List Env) (s : Shared) (H : Hp) (E : XK), Room k (A.deeper (envOfC qual (defScope st) s.heap.objs.size f cdv)) →
      VeryD c m (cxOf (L2.CX P w) P w K mg base ["told", "passed"] qual (defScope st) f cdv A outer s H E) (fun cls d _ H' => E cls d H') (defBody st)) : FnOk P w K mg base (L2.CX P w) (k + 1) f fd ["told", "passed"] (SpVery c m) :=
  Fn.okX S (fun vs H Q E h => h.1) fun cdv A outer s H vs Q E hr h => by
    obtain ⟨hl, w, x, told, passed, F, rfl, h'⟩ := h
    obtain ⟨t, d, q⟩ := very_body M (hbody cdv A outer s H E hr) w x
    exact ⟨t, d, q H Q E rfl ⟨hl, w, x, told, passed, F, rfl, h'⟩⟩
structure FvVery (P : Program) (w : World) (K : PySem.W.Frag) (mg : Str → Option Value) (base : Heap) (c : Cn) (k : Nat) (x : Str) (m : GF) : Prop where
  ex : ∃ (f : Addr) (fd : FuncData) (ps : List Str), mg x = some (.ref f) ∧ FnOk P w K mg base (L2.CX P w) k f fd ps (SpVery c m) ∧ PySem.W.keepIn K (.ref f) = true ∧ Binds K fd ps []
def hVery (m : GF) (ga gb : GE) : GH := fun ρ => (ga ρ).bind fun a => (gb a.2).bind fun b => match b.1 with
  | .lst (some p) xs => match a.1 with
    | .lst (some q) _ => if p = q ∧ xs.length < sizeLine then .ret (true, some p, b.2) else .stuck
    | _ => .stuck
  | .dic (some p) [] => match a.1 with
    | .dic (some q) _ => if p = q then .ret (true, some p, b.2) else .stuck
    | _ => .stuck
  | .lst none _ => .stuck
  | .dic _ _ => .stuck
  | v => if (tyN v).isSome = true then ((m [.fz a.1, .fz v]).mapE fun e => (e.1, b.2)).bind fun r => match r.1 with
    | .bl k => .ret (k, none, b.2)
    | _ => .stuck
  else .stuck
theorem ve_very {k j : Nat} {m : GF} {x : Str} (F : FvVery X.prog X.w X.K X.mg X.base c k x m) (hr : Room j X.A) (hj : k ≤ j) (hg : Gl X x) (tk : Takes X W) (ha : PE X a (tE c W ga)) (hb : PE X b (tE c W gb))
    (hdb : (x == ("__debug__" : Str)) = false := by decide) (he : starEach [a, b] X.env = (false, eval a X.env) :: starEach [b] X.env := by rfl) (he2 : starEach [b] X.env = (false, eval b X.env) :: starEach [] X.env := by rfl)
    (hpl : (backTo pos (starEach [b] X.env)).any (·.1) = false := by rfl) : PE X (.Call (.Name x p) [a, b] [] pos) (tHE c W (hVery m ga gb)) := by
  obtain ⟨f, fd, ps, hm, G, kp, hbi⟩ := F.ex
  refine imp_PE (pe_callS G (hr.mono hj) hg hm kp hbi (fun σ => passAt tk σ) (pa_cons ha (pa_cons hb pa_nil he2) he) hdb he hpl) fun σ H Q ⟨ρ, F, er, z⟩ => ?_
  refine tE_bind er z fun v ρ1 w F1 H1 st rep h1 => tE_bind st.2 h1 fun u ρ2 y F2 H2 st2 rep2 h2 => ?_
  have st12 := st.trans st2
  have rep' := rep.mono st2.1.ff
  refine ⟨rfl, w, y, v, u, F2, rfl, st2.2.sub, st2.2.mrk, rep', rep2, ?_⟩
  have nOw : ∀ {p : Addr} {o : HO}, F2 p = some o → ¬ Own σ ρ2 p := fun {p o} hp hz => by
    rw [(Own.tracked st2.2 hz).1] at hp
    cases hp
  have oth : (tyN u).isSome = true → (((m [.fz v, .fz u]).mapE fun e => (e.1, ρ2)).bind fun r => match r.1 with | .bl k => (.ret (k, none, ρ2) : Wp XE' (Bool × Option Addr × Env')) | _ => .stuck).run (OkH c σ ρ F H fun b H' => Q (.bl b) H') (ErE c W σ ρ2 F2 H2) → (∃ t, tyN u = some t) ∧
      (m [.fz v, .fz u]).run (fun r => ∀ w F' H', Grow F2 H2 F' H' → Rep c F' w r.1 → Q w H') (fun e => ∀ d F' H', Grow F2 H2 F' H' → ExD c F' H' d e.1.fs → WE W σ (.ref (c.cA e.1.k)) d H') := fun e h => by
    refine ⟨Option.isSome_iff_exists.mp e, (m [.fz v, .fz u]).mono (fun r q w' F' H' gr rp => ?_) (fun e q d F' H' gr ex => q d F' H' (gr.stpE st2.2) ex) h⟩
    obtain ⟨r, ss⟩ := r
    cases r with
    | bl k => cases rp; exact (q F' H' (st12.trans (gr.stpE st2.2))).1 rfl
    | _ => exact q.elim
  dsimp only at h2
  cases rep2 with
  | @lst p vs g xs hF r t =>
    cases g with
    | none => exact h2.elim
    | some p' =>
      dsimp only at h2
      split at h2
      · rename_i q ys
        split at h2
        · rename_i hq
          obtain ⟨rfl, hz⟩ := hq
          obtain ⟨rfl, hB⟩ := t p' rfl
          exact ⟨p', _, rfl, rfl, hz, fun H' h3 h4 => (h2 F2 H2 st12).2 _ rfl H' ⟨hB, nOw hF, h3, .inl h4⟩⟩
        · exact h2.elim
      · exact h2.elim
  | @dic p vs g xs hF r t =>
    cases g with
    | none => exact h2.elim
    | some p' => cases xs with
      | cons _ _ => exact h2.elim
      | nil =>
        dsimp only at h2
        split at h2
        · rename_i q ys
          split at h2
          · rename_i hq
            subst hq
            obtain ⟨rfl, hB⟩ := t p' rfl
            exact ⟨p', _, rfl, rfl, rfl, fun H' h3 h4 => (h2 F2 H2 st12).2 _ rfl H' ⟨hB, nOw hF, h3, .inr ⟨(by cases r; exact hF), h4⟩⟩⟩
          · exact h2.elim
        · exact h2.elim
  | any y => exact h2.elim
  | ins h1 r1 => exact h2.elim
  | scr h1 => exact h2.elim
  | _ => exact oth rfl h2
end
end VL

set_option Elab.async false
set_option linter.all false
set_option maxRecDepth 100000
set_option maxHeartbeats 1000000
/-! VL, part 14: a new list some of whose items are new lists or dicts of one's own; a loop over it. -/
namespace VL
open PySem PySem.Spec PyProof.Rows L2

inductive RV where
  | pv (v : PV) | ml (xs : List PV) | md
section
variable (c : Cn) (σ : St) (ρ : Env') (F H : Hp)
def RReps : (Addr → Prop) → List V → List RV → Prop
  | _, [], [] => True
  | N, w :: ws, .pv v :: rs => Rep c F w v ∧ RReps N ws rs
  | N, w :: ws, .ml xs :: rs => ∃ q ys, w = .ref q ∧ N q ∧ F q = none ∧ H q = some (.lst ys) ∧ ¬ Own σ ρ q ∧ Reps c F ys xs ∧ RReps (fun a => N a ∧ a ≠ q) ws rs
  | N, w :: ws, .md :: rs => ∃ q, w = .ref q ∧ N q ∧ F q = none ∧ H q = some (.dK []) ∧ ¬ Own σ ρ q ∧ RReps (fun a => N a ∧ a ≠ q) ws rs
  | _, _, _ => False
end
section
variable {c : Cn} {σ σ' : St} {ρ ρ' : Env'} {F H F' H' : Hp}
/-- what keeps them -/
structure Keeps (σ : St) (ρ : Env') (F H : Hp) (σ' : St) (ρ' : Env') (F' H' : Hp) (N : Addr → Prop) : Prop where
  ff : Same F F'
  hh : ∀ p o, N p → H p = some o → F p = none → ¬ Own σ ρ p → H' p = some o ∧ F' p = none ∧ ¬ Own σ' ρ' p
theorem RReps.keep : ∀ {N M : Addr → Prop} {ws : List V} {rs : List RV}, Keeps σ ρ F H σ' ρ' F' H' N → (∀ a o, N a → H a = some o → M a) → RReps c σ ρ F H N ws rs → RReps c σ' ρ' F' H' M ws rs
  | _, _, [], [], _, _, _ => trivial
  | _, _, w :: ws, .pv v :: rs, k, m, ⟨a, b⟩ => ⟨a.mono k.ff, RReps.keep k m b⟩
  | N, M, w :: ws, .ml xs :: rs, k, m, ⟨q, ys, h1, h2, h3, h4, h5, h6, h7⟩ => by
    obtain ⟨a, b, d⟩ := k.hh q _ h2 h4 h3 h5
    exact ⟨q, ys, h1, m q _ h2 h4, b, a, d, h6.mono k.ff, RReps.keep (N := fun a => N a ∧ a ≠ q) ⟨k.ff, fun p o hn => k.hh p o hn.1⟩ (fun a o h e => ⟨m a o h.1 e, h.2⟩) h7⟩
  | N, M, w :: ws, .md :: rs, k, m, ⟨q, h1, h2, h3, h4, h5, h7⟩ => by
    obtain ⟨a, b, d⟩ := k.hh q _ h2 h4 h3 h5
    exact ⟨q, h1, m q _ h2 h4, b, a, d, RReps.keep (N := fun a => N a ∧ a ≠ q) ⟨k.ff, fun p o hn => k.hh p o hn.1⟩ (fun a o h e => ⟨m a o h.1 e, h.2⟩) h7⟩
  | _, _, [], .pv _ :: _, _, _, h => h.elim
  | _, _, [], .ml _ :: _, _, _, h => h.elim
  | _, _, [], .md :: _, _, _, h => h.elim
  | _, _, _ :: _, [], _, _, h => h.elim
theorem Keeps.refl {N : Addr → Prop} : Keeps σ ρ F H σ ρ F H N := ⟨Same.refl F, fun p o _ h f n => ⟨h, f, n⟩⟩
theorem RReps.weak {N M : Addr → Prop} {ws : List V} {rs : List RV} (m : ∀ a, N a → M a) (h : RReps c σ ρ F H N ws rs) : RReps c σ ρ F H M ws rs := h.keep .refl fun a _ z _ => m a z
theorem RReps.length : ∀ {N : Addr → Prop} {ws : List V} {rs : List RV}, RReps c σ ρ F H N ws rs → ws.length = rs.length
  | _, [], [], _ => rfl
  | _, w :: ws, .pv v :: rs, ⟨a, b⟩ => congrArg Nat.succ (RReps.length b)
  | _, w :: ws, .ml xs :: rs, ⟨q, ys, h1, h2, h3, h4, h5, h6, h7⟩ => congrArg Nat.succ (RReps.length h7)
  | _, w :: ws, .md :: rs, ⟨q, h1, h2, h3, h4, h5, h7⟩ => congrArg Nat.succ (RReps.length h7)
  | _, [], .pv _ :: _, h => h.elim
  | _, [], .ml _ :: _, h => h.elim
  | _, [], .md :: _, h => h.elim
  | _, _ :: _, [], h => h.elim
theorem RReps.drop : ∀ (n : Nat) {N : Addr → Prop} {ws : List V} {rs : List RV}, RReps c σ ρ F H N ws rs → RReps c σ ρ F H N (ws.drop n) (rs.drop n)
  | 0, _, _, _, h => h
  | _ + 1, _, [], [], _ => trivial
  | n + 1, _, w :: ws, .pv v :: rs, ⟨a, b⟩ => RReps.drop n b
  | n + 1, _, w :: ws, .ml xs :: rs, ⟨q, ys, h1, h2, h3, h4, h5, h6, h7⟩ => (RReps.drop n h7).weak fun _ z => z.1
  | n + 1, _, w :: ws, .md :: rs, ⟨q, h1, h2, h3, h4, h5, h7⟩ => (RReps.drop n h7).weak fun _ z => z.1
  | _ + 1, _, [], .pv _ :: _, h => h.elim
  | _ + 1, _, [], .ml _ :: _, h => h.elim
  | _ + 1, _, [], .md :: _, h => h.elim
  | _ + 1, _, _ :: _, [], h => h.elim
theorem RReps.take : ∀ (n : Nat) {N : Addr → Prop} {ws : List V} {rs : List RV}, RReps c σ ρ F H N ws rs → RReps c σ ρ F H N (ws.take n) (rs.take n)
  | 0, _, _, _, h => by simp only [List.take_zero]; trivial
  | _ + 1, _, [], [], _ => trivial
  | n + 1, _, w :: ws, .pv v :: rs, ⟨a, b⟩ => ⟨a, RReps.take n b⟩
  | n + 1, _, w :: ws, .ml xs :: rs, ⟨q, ys, h1, h2, h3, h4, h5, h6, h7⟩ => ⟨q, ys, h1, h2, h3, h4, h5, h6, RReps.take n h7⟩
  | n + 1, _, w :: ws, .md :: rs, ⟨q, h1, h2, h3, h4, h5, h7⟩ => ⟨q, h1, h2, h3, h4, h5, RReps.take n h7⟩
  | _ + 1, _, [], .pv _ :: _, h => h.elim
  | _ + 1, _, [], .ml _ :: _, h => h.elim
  | _ + 1, _, [], .md :: _, h => h.elim
  | _ + 1, _, _ :: _, [], h => h.elim
theorem RReps.cut {N : Addr → Prop} {ws : List V} {rs : List RV} (h : RReps c σ ρ F H N ws rs) (lo hi : Option Int) : RReps c σ ρ F H N (cutV ws lo hi) (cutP rs lo hi) := by
  unfold cutV cutP
  rw [h.length]
  exact (h.drop _).take _
theorem RReps.ofReps : ∀ {N : Addr → Prop} {ws vs : List V} {xs : List PV} {rs : List RV}, Reps c F ws xs → RReps c σ ρ F H N vs rs → RReps c σ ρ F H N (ws ++ vs) (xs.map .pv ++ rs)
  | _, _, _, _, _, .nil, h => h
  | _, _, _, _, _, .cons a r, h => ⟨a, RReps.ofReps r h⟩
theorem StpE.keeps {N : Addr → Prop} (s : StpE c σ ρ F H ρ' F' H') : Keeps σ ρ F H σ ρ' F' H' N :=
  ⟨s.1.ff, fun p o _ h f n => ⟨(s.1.hh p o h n).1, (s.1.hh p o h n).2 f, fun z => (s.1.ow p z).elim n fun q => by rw [h] at q; cases q⟩⟩
end

/-! ### displays with such items -/
abbrev GR := Env' → Wp XE' (List RV × Env')
def rNil : GR := fun ρ => .ret ([], ρ)
def rPv (g : GE) (h : GR) : GR := fun ρ => (g ρ).bind fun a => (h a.2).bind fun b => .ret (.pv a.1 :: b.1, b.2)
def rMl (g : GL) (h : GR) : GR := fun ρ => (g ρ).bind fun a => (h a.2).bind fun b => .ret (.ml a.1 :: b.1, b.2)
def rMd (h : GR) : GR := fun ρ => (h ρ).bind fun b => .ret (.md :: b.1, b.2)
def OkRA (c : Cn) (n : Nat) (σ : St) (ρ : Env') (F H : Hp) (Q : List V → Hp → Prop) : List RV × Env' → Prop := fun r => ∀ ws F' H', StpE c σ ρ F H r.2 F' H' → RReps c σ r.2 F' H' (fun a => H a = none) ws r.1 → ws.length = n → Q ws H'
def tRA (c : Cn) (W : WX) (n : Nat) (g : GR) : TA := fun σ H Q => ∃ ρ F, ER c F H σ ρ ∧ (g ρ).run (OkRA c n σ ρ F H Q) (ErE c W σ ρ F H)
/-- a new list of such items -/
def OkR (c : Cn) (σ : St) (ρ : Env') (F H : Hp) (Q : VK) : List RV × Env' → Prop := fun r => ∀ p ws F' H', StpE c σ ρ F H r.2 F' H' → H p = none → F' p = none → H' p = some (.lst ws) → ¬ Own σ r.2 p → RReps c σ r.2 F' H' (fun a => H a = none ∧ a ≠ p) ws r.1 → Q (.ref p) H'
def tR (c : Cn) (W : WX) (g : GR) : TE := fun σ H Q => ∃ ρ F, ER c F H σ ρ ∧ (g ρ).run (OkR c σ ρ F H Q) (ErE c W σ ρ F H)
def rDisp (g : GR) : GR := fun ρ => (g ρ).bind fun a => if a.1.length ≤ sizeLine then .ret a else .stuck
def rAdd (g : GE) (h : GR) : GR := fun ρ => (g ρ).bind fun a => match a.1 with
  | .lst _ xs => (h a.2).bind fun b => if xs.length + b.1.length ≤ sizeLine then .ret (xs.map .pv ++ b.1, b.2) else .stuck
  | _ => .stuck
def rSl (g : GR) (l : GO) : GR := fun ρ => (g ρ).bind fun a => (l a.2).bind fun i => .ret (cutP a.1 i.1 none, i.2)
section
variable {c : Cn} {X : Cx} {W : WX} {pn : Nat → Bool} {a b e : Expr} {es : List Expr} {ga gb : GE} {gl : GL} {gr : GR} {go : GO} {pos p : Pos} {n : Nat} {σ : St} {ρ ρ1 : Env'} {F H F1 H1 : Hp}
theorem tL_bind {α : Type} {g : GL} {k : List PV × Env' → Wp XE' α} {R : VK} {Z : α → Prop} (er : ER c F H σ ρ) (h : ((g ρ).bind k).run Z (ErE c W σ ρ F H))
    (hk : ∀ v ρ1 p vs F1 H1, StpE c σ ρ F H ρ1 F1 H1 → H p = none → F1 p = none → H1 p = some (.lst vs) → ¬ Own σ ρ1 p → Reps c F1 vs v → (k (v, ρ1)).run Z (ErE c W σ ρ1 F1 H1) → R (.ref p) H1) : tL c W g σ H R :=
  ⟨ρ, F, er, (g ρ).mono (fun r h1 p vs F1 H1 st a b d e f => hk r.1 r.2 p vs F1 H1 st a b d e f ((k r).mono (fun _ z => z) (fun _ => ErE.step st) h1)) (fun _ z => z) h⟩
theorem tRA_bind {α : Type} {g : GR} {k : List RV × Env' → Wp XE' α} {R : List V → Hp → Prop} {Z : α → Prop} (er : ER c F H σ ρ) (h : ((g ρ).bind k).run Z (ErE c W σ ρ F H))
    (hk : ∀ rs ρ1 ws F1 H1, StpE c σ ρ F H ρ1 F1 H1 → RReps c σ ρ1 F1 H1 (fun a => H a = none) ws rs → ws.length = n → (k (rs, ρ1)).run Z (ErE c W σ ρ1 F1 H1) → R ws H1) : tRA c W n g σ H R :=
  ⟨ρ, F, er, (g ρ).mono (fun r h1 ws F1 H1 st a b => hk r.1 r.2 ws F1 H1 st a b ((k r).mono (fun _ z => z) (fun _ => ErE.step st) h1)) (fun _ z => z) h⟩
theorem tR_bind {α : Type} {g : GR} {k : List RV × Env' → Wp XE' α} {R : VK} {Z : α → Prop} (er : ER c F H σ ρ) (h : ((g ρ).bind k).run Z (ErE c W σ ρ F H))
    (hk : ∀ rs ρ1 p ws F1 H1, StpE c σ ρ F H ρ1 F1 H1 → H p = none → F1 p = none → H1 p = some (.lst ws) → ¬ Own σ ρ1 p → RReps c σ ρ1 F1 H1 (fun a => H a = none ∧ a ≠ p) ws rs → (k (rs, ρ1)).run Z (ErE c W σ ρ1 F1 H1) → R (.ref p) H1) : tR c W g σ H R :=
  ⟨ρ, F, er, (g ρ).mono (fun r h1 p ws F1 H1 st a b d e f => hk r.1 r.2 p ws F1 H1 st a b d e f ((k r).mono (fun _ z => z) (fun _ => ErE.step st) h1)) (fun _ z => z) h⟩
theorem vr_nil : PA X [] (tRA c W 0 rNil) := imp_PA pa_nil fun σ H Q ⟨ρ, F, er, z⟩ => z [] F H (StpE.refl er) trivial rfl
theorem none_of_th (s : StpE c σ ρ F H ρ1 F1 H1) {p : Addr} (h : H1 p = none) : H p = none := by
  cases e : H p with
  | none => rfl
  | some o => obtain ⟨o', e'⟩ := s.1.th p o e; rw [h] at e'; cases e'
theorem vr_pv (ha : PE X a (tE c W ga)) (hr : PA X es (tRA c W n gr)) (hs : starEach (a :: es) X.env = (false, eval a X.env) :: starEach es X.env := by rfl) : PA X (a :: es) (tRA c W (n + 1) (rPv ga gr)) :=
  imp_PA (pa_cons ha hr hs) fun σ H Q ⟨ρ, F, er, z⟩ => tE_bind er z fun v ρ1 w F1 H1 st rep h1 =>
    tRA_bind st.2 h1 fun rs ρ2 ws F2 H2 st2 rr hl h2 => h2 (w :: ws) F2 H2 (st.trans st2) ⟨rep.mono st2.1.ff, rr.weak fun a h => none_of_th st h⟩ (by rw [List.length_cons, hl])
theorem vr_ml (ha : PE X a (tL c W gl)) (hr : PA X es (tRA c W n gr)) (hs : starEach (a :: es) X.env = (false, eval a X.env) :: starEach es X.env := by rfl) : PA X (a :: es) (tRA c W (n + 1) (rMl gl gr)) :=
  imp_PA (pa_cons ha hr hs) fun σ H Q ⟨ρ, F, er, z⟩ => tL_bind er z fun v ρ1 p vs F1 H1 st hn hF hH no rep h1 =>
    tRA_bind st.2 h1 fun rs ρ2 ws F2 H2 st2 rr hl h2 => by
      obtain ⟨a1, a2, a3⟩ := (StpE.keeps (N := fun _ => True) st2).hh p _ trivial hH hF no
      exact h2 (.ref p :: ws) F2 H2 (st.trans st2) ⟨p, vs, rfl, hn, a2, a1, a3, rep.mono st2.1.ff, rr.weak fun a h => ⟨none_of_th st h, fun e => by rw [e, hH] at h; cases h⟩⟩ (by rw [List.length_cons, hl])
theorem vr_md {dpos : Pos} (hr : PA X es (tRA c W n gr)) (hs : starEach (.Dict [] [] dpos :: es) X.env = (false, eval (.Dict [] [] dpos) X.env) :: starEach es X.env := by rfl) : PA X (.Dict [] [] dpos :: es) (tRA c W (n + 1) (rMd gr)) :=
  imp_PA (pa_cons pe_dnewK hr hs) fun σ H Q ⟨ρ, F, er, z⟩ p hp => by
    have st := (upd_growH (o := .dK []) er.sub hp).stpE er
    have no := not_own_new er hp
    refine tRA_bind (k := fun b => (.ret (.md :: b.1, b.2) : Wp XE' (List RV × Env'))) (Z := OkRA c (n + 1) σ ρ F H Q) st.2 ((rMd gr ρ).mono (fun _ z => z) (fun _ => ErE.step st) z) fun rs ρ2 ws F2 H2 st2 rr hl h2 => ?_
    obtain ⟨a1, a2, a3⟩ := (StpE.keeps (N := fun _ => True) st2).hh p _ trivial upd_same (er.sub.free hp) no
    refine h2 (.ref p :: ws) F2 H2 (st.trans st2) ⟨p, rfl, hp, a2, a1, a3, rr.weak fun a h => ?_⟩ (by rw [List.length_cons, hl])
    have h' := none_of_th st h
    exact ⟨h', fun e => by subst e; rw [upd_same] at h; cases h⟩
theorem vr_disp (h : PA X es (tRA c W n gr)) : PE X (.List es pos) (tR c W (rDisp gr)) :=
  imp_PE (pe_lst h) fun σ H Q ⟨ρ, F, er, z⟩ => tRA_bind er z fun rs ρ1 ws F1 H1 st rr hl h1 => by
    by_cases hz : rs.length ≤ sizeLine
    · dsimp only at h1
      rw [if_pos hz] at h1
      refine ⟨by rw [rr.length]; exact hz, fun p hp => ?_⟩
      have g := upd_growH (o := .lst ws) st.2.sub hp
      have s2 := g.stpE st.2
      refine h1 p ws F1 _ (st.trans s2) (none_of_th st hp) (st.2.sub.free hp) upd_same (not_own_new st.2 hp) ?_
      have rr' : RReps c σ ρ1 F1 H1 (fun a => H a = none ∧ a ≠ p) ws rs := rr.keep .refl fun a o h e => ⟨h, fun z => by rw [z, hp] at e; cases e⟩
      exact rr'.keep s2.keeps fun _ _ z _ => z
    · dsimp only at h1
      rw [if_neg hz] at h1
      exact h1.elim
theorem vr_add (ha : PE X a (tE c W ga)) (hb : PE X b (tR c W gr)) : PE X (.BinOp a .Add b pos) (tR c W (rAdd ga gr)) :=
  imp_PE (pe_op op_cat ha hb) fun σ H Q ⟨ρ, F, er, z⟩ => tE_bind er z fun v ρ1 w F1 H1 st rep h1 => by
    cases rep with
    | @lst l vs g xs hF r t =>
      refine tR_bind st.2 h1 fun rs ρ2 p ws F2 H2 st2 hn hF2 hH no rr h2 => ?_
      dsimp only at h2
      split at h2
      · rename_i hz
        have st12 := st.trans st2
        refine ⟨l, p, vs, ws, rfl, rfl, st2.2.sub _ _ (st2.1.ff _ _ hF), hH, by rw [r.length, rr.length]; exact hz, fun q hq => ?_⟩
        have g := upd_growH (o := .lst (vs ++ ws)) st2.2.sub hq
        have s3 := g.stpE st2.2
        refine h2 q (vs ++ ws) F2 _ (st12.trans s3) (none_of_th st12 hq) (st2.2.sub.free hq) upd_same (not_own_new st2.2 hq) ?_
        have rr' : RReps c σ ρ2 F2 H2 (fun a => H a = none ∧ a ≠ q) ws rs := rr.keep .refl fun a o h e => ⟨none_of_th st h.1, fun z => by rw [z, hq] at e; cases e⟩
        exact RReps.ofReps (r.mono (st2.trans s3).1.ff) (rr'.keep s3.keeps fun _ _ z _ => z)
      · exact h2.elim
    | _ => exact h1.elim
theorem vr_slice {lo : Option Expr} {p2 : Pos} (hk : c.K = X.K) (ha : PE X a (tR c W gr)) (hl : PO X lo (tO c W go)) : PE X (.Subscript a (.Slice lo none none p2) pos) (tR c W (rSl gr go)) :=
  imp_PE (pe_slice sl_list ha hl po_none) fun σ H Q ⟨ρ, F, er, z⟩ => tR_bind er z fun rs ρ1 p ws F1 H1 st hn hF hH no rr h1 => tO_bind st.2 h1 fun i ρ2 F2 H2 st2 h2 => by
    have st12 := st.trans st2
    obtain ⟨a1, a2, a3⟩ := (StpE.keeps (N := fun _ => True) st2).hh p _ trivial hH hF no
    refine ⟨p, ws, rfl, SqL.of a1, fun q hq => ?_⟩
    have g := upd_growH (o := .lst (cutV ws i none)) st2.2.sub hq
    have s3 := g.stpE st2.2
    refine h2 q _ F2 _ (st12.trans s3) (none_of_th st12 hq) (st2.2.sub.free hq) upd_same (not_own_new st2.2 hq) ?_
    have rr' : RReps c σ ρ1 F1 H1 (fun a => H a = none ∧ a ≠ q) ws rs := rr.keep .refl fun a o h e => ⟨h.1, fun z => by
      have := none_of_th st2 (show H2 a = none by rw [z]; exact hq)
      rw [this] at e
      cases e⟩
    exact RReps.cut (rr'.keep (st2.trans s3).keeps fun _ _ z _ => z) i none
end
end VL

set_option Elab.async false
set_option linter.all false
set_option maxRecDepth 100000
set_option maxHeartbeats 1000000
/-! VL, part 15: a loop over such a list; its body may change the item. -/
namespace VL
open PySem PySem.Spec PyProof.Rows L2

/-- the item as the body sees it -/
def rTree : RV → Wp XE' PV
  | .pv v => .ret v.er
  | .ml xs => .all (fun _ => True) fun q => .ret (.lst (some q) (erL xs))
  | .md => .all (fun _ => True) fun q => .ret (.dic (some q) [])
def bodyE (ρ : Env') (iv : Nat) (t : PV) : Env' := ((ρ.map SV.er).map SV.hid).set iv (.fz t)
def forR (iv : Nat) (g : GS) : List RV → Env' → Wp XE' Out
  | [], ρ => .ret (.nx ρ)
  | r :: rs, ρ => (rTree r).bind fun t => (noE (g (bodyE ρ iv t))).bind fun o => match o with
    | .nx _ => forR iv g rs ρ
    | .ct _ => forR iv g rs ρ
    | .th none _ => forR iv g rs ρ
    | .rt v _ => .ret (.rt v.er ρ)
    | .th (some b) _ => .ret (.rt (.bl b) ρ)
    | .bk _ => .stuck
def pnOf (is : List Nat) (i : Nat) : Bool := !is.contains i
section
variable {c : Cn} {X : Cx} {W : WX} {pn : Nat → Bool} {g : GS} {pos : Pos} {σ σ' σ0 : St} {ρ ρ' ρ0 : Env'} {F H F' H' F0 H0 : Hp}
/-- where a loop stands: ρ with the loop's slots wiped -/
structure RAt (c : Cn) (pn : Nat → Bool) (is : List Nat) (σ0 : St) (ρ0 : Env') (F0 H0 : Hp) (ρ : Env') (F : Hp) (a : Addr) (ws : List V) (rs : List RV) (i : Nat) (σ : St) (H : Hp) : Prop where
  st : StpS c pn σ0 ρ0 F0 H0 σ ρ F H
  la : H a = some (.lst ws)
  no : ¬ Own σ ρ a
  Fa : F a = none
  rr : RReps c σ ρ F H (fun x => H0 x = none ∧ x ≠ a) (ws.drop i) (rs.drop i)
/-- the body's steps, seen from outside -/
theorem RAt.after {B : Addr → Prop} {is : List Nat} {a : Addr} {ws : List V} {rs : List RV} {i iv : Nat} {w : V} {t : PV} {Fb Fb' : Hp} {ρb : Env'} (h : RAt c pn is σ0 ρ0 F0 H0 (wipeE ρ is) F a ws rs i σ H) (hiv : iv ∈ is)
    (sub : ∀ p o, F p = some o → Fb p = some o) (hl : σ'.length = σ.length) (hp : ∀ j, j ∉ is → σ'[j]? = σ[j]?) (hpn : ∀ j, j ∈ is → pn j = false)
    (N : Addr → Prop) (keep : ∀ p o, H p = some o → N p → H' p = some o) (hF : ∀ p o, F p = some o → N p) (hn0 : ∀ p o, H0 p = some o → N p) (ha : N a) (th : ∀ p o, H p = some o → ∃ o', H' p = some o')
    (rr : RReps c σ (wipeE ρ is) F H (fun x => (H0 x = none ∧ x ≠ a) ∧ N x) (ws.drop (i + 1)) (rs.drop (i + 1))) (hN : ∀ p, Own σ (wipeE ρ is) p → N p) : RAt c pn is σ0 ρ0 F0 H0 (wipeE ρ is) F a ws rs (i + 1) σ' H' := by
  have get : ∀ {j : Nat} {s : SV}, (wipeE ρ is)[j]? = some s → s ≠ .un → σ'[j]? = σ[j]? := fun {j s} e n => by
    refine hp j fun hj => ?_
    rw [wipeE_get, if_pos hj] at e
    split at e
    · cases e; exact n rfl
    · cases e
  have own : ∀ {p}, Own σ' (wipeE ρ is) p ↔ Own σ (wipeE ρ is) p := fun {p} => ⟨fun ⟨j, s, a, b, d⟩ => ⟨j, s, by rw [← get b (fun z => by rw [z] at d; cases d)]; exact a, b, d⟩, fun ⟨j, s, a, b, d⟩ => ⟨j, s, by rw [get b (fun z => by rw [z] at d; cases d)]; exact a, b, d⟩⟩
  have er := h.st.2.1
  have er' : ER c F H' σ' (wipeE ρ is) := ⟨fun p o e => keep p o (er.sub p o e) (hF p o e), by rw [hl]; exact er.len, fun j o s h1 h2 => by
    cases s with
    | un => trivial
    | fz v => rw [get h2 (fun z => nomatch z)] at h1; exact er.slot j o _ h1 h2
    | ow xs =>
      rw [get h2 (fun z => nomatch z)] at h1
      obtain ⟨p, us, e, f, q, r⟩ := er.slot j o _ h1 h2
      subst e
      exact ⟨p, us, rfl, f, keep p _ q (hN p ⟨j, _, h1, h2, rfl⟩), r⟩
    | bx n =>
      rw [get h2 (fun z => nomatch z)] at h1
      obtain ⟨p, us, e, f, q, r⟩ := er.slot j o _ h1 h2
      subst e
      exact ⟨p, us, rfl, f, keep p _ q (hN p ⟨j, _, h1, h2, rfl⟩), r⟩, fun j k s t p h1 h2 h3 h4 h5 h6 => by
    rw [get h3 (fun z => by rw [z] at h5; cases h5)] at h1
    rw [get h4 (fun z => by rw [z] at h6; cases h6)] at h2
    exact er.dis j k s t p h1 h2 h3 h4 h5 h6, fun p b => (er.mrk p b).elim fun o e => th p o e⟩
  refine ⟨⟨⟨h.st.1.ff, fun p o e n => ?_, fun p o e => ?_, fun p z => h.st.1.ow p (own.mp z)⟩, er', fun j hj => ?_, hl.trans h.st.2.2.2⟩, keep a _ h.la ha, fun z => h.no (own.mp z), h.Fa, ?_⟩
  · obtain ⟨h1, h2⟩ := h.st.1.hh p o e n
    exact ⟨keep p o h1 (hn0 p o e), h2⟩
  · obtain ⟨o1, h1⟩ := h.st.1.th p o e
    exact th p o1 h1
  · rw [hp j (fun z => by rw [hpn j z] at hj; cases hj)]
    exact h.st.2.2.1 j hj
  · exact rr.keep ⟨Same.refl F, fun p o z e f n => ⟨keep p o e z.2, f, fun q => n (own.mp q)⟩⟩ fun p o z _ => z.1
/-- an item, ready for the body -/
structure ItemOk (c : Cn) (is : List Nat) (H0 : Hp) (ρ : Env') (F : Hp) (a : Addr) (ws : List V) (rest : List RV) (i : Nat) (σ : St) (H : Hp) (w : V) (t : PV) (B : Addr → Prop) (Fb : Hp) : Prop where
  sub : Same F Fb
  inH : Same Fb H
  bH : ∀ p, B p → ∃ o, H p = some o
  rep : Rep (c.at B) Fb w t
  hF : ∀ p o, F p = some o → B p
  hn0 : ∀ p o, H0 p = some o → B p
  ha : B a
  hN : ∀ p, Own σ (wipeE ρ is) p → B p
  hFb : ∀ p, B p → F p = none → Fb p = none
  rr : RReps c σ (wipeE ρ is) F H (fun x => (H0 x = none ∧ x ≠ a) ∧ B x) (ws.drop (i + 1)) rest
theorem RAt.item {is : List Nat} {a : Addr} {ws : List V} {rs rest : List RV} {r : RV} {i : Nat} (h : RAt c pn is σ0 ρ0 F0 H0 (wipeE ρ is) F a ws rs i σ H) (hr : rs.drop i = r :: rest) :
    ∃ w t B Fb, ws[i]? = some w ∧ (∀ K E, (rTree r).run K E → K t) ∧ ItemOk c is H0 ρ F a ws rest i σ H w t B Fb := by
  have er := h.st.2.1
  have rr := h.rr
  rw [hr] at rr
  have inH : ∀ {p o}, H0 p = some o → H p ≠ none := fun {p o} e z => by
    obtain ⟨o1, h1⟩ := h.st.1.th p o e
    rw [h1] at z
    cases z
  have dom : ∀ {p}, H p ≠ none → ∃ o, H p = some o := fun {p} b => by
    cases e : H p with
    | none => exact absurd e b
    | some o => exact ⟨o, rfl⟩
  cases hw : ws.drop i with
  | nil => rw [hw] at rr; cases r <;> exact rr.elim
  | cons w ws' =>
    have hi : ws[i]? = some w := by rw [← List.head?_drop, hw]; rfl
    have hd : ws.drop (i + 1) = ws' := by rw [← List.tail_drop, hw]; rfl
    rw [hw] at rr
    cases r with
    | pv v =>
      obtain ⟨r1, r2⟩ := rr
      refine ⟨w, v.er, fun x => H x ≠ none, F, hi, fun K E z => z, ⟨Same.refl F, er.sub, (fun p b => dom b), r1.er, fun p o e z => ?_, fun p o e => inH e, fun z => ?_, fun p z q => ?_, fun p _ z => z, ?_⟩⟩
      · rw [er.sub p o e] at z; cases z
      · rw [h.la] at z; cases z
      · obtain ⟨_, us, e⟩ := Own.tracked er z; rw [e] at q; cases q
      · rw [hd]; exact r2.keep .refl fun p o z e => ⟨z, by rw [e]; exact fun z => nomatch z⟩
    | ml xs =>
      obtain ⟨q, ys, rfl, hn, f, hq, no, ry, r2⟩ := rr
      have fz := freeze_grow er.sub f hq
      refine ⟨_, .lst (some q) (erL xs), fun x => H x ≠ none ∧ x ≠ q, upd F q (.lst ys), hi, fun K E z => z q trivial, ⟨fz.1, fz.2, (fun p b => dom b.1), .lst upd_same ((ry.mono fz.1).er') (fun p z => ?_), fun p o e => ⟨fun z => ?_, fun z => ?_⟩, fun p o e => ⟨inH e, fun z => ?_⟩, ⟨fun z => ?_, fun z => hn.2 z.symm⟩, fun p z => ⟨fun y => ?_, fun y => ?_⟩, fun p b z => ?_, ?_⟩⟩
      · cases z; exact ⟨rfl, fun z => z.2 rfl⟩
      · rw [er.sub p o e] at z; cases z
      · rw [z, f] at e; cases e
      · rw [z, hn.1] at e; cases e
      · rw [h.la] at z; cases z
      · obtain ⟨_, us, e⟩ := Own.tracked er z; rw [e] at y; cases y
      · rw [y] at z; exact no z
      · rw [upd_ne b.2]; exact z
      · rw [hd]; exact r2.keep .refl fun p o z e => ⟨z.1, by rw [e]; exact (fun z => nomatch z), z.2⟩
    | md =>
      obtain ⟨q, rfl, hn, f, hq, no, r2⟩ := rr
      have fz := freeze_grow er.sub f hq
      refine ⟨_, .dic (some q) [], fun x => H x ≠ none ∧ x ≠ q, upd F q (.dK []), hi, fun K E z => z q trivial, ⟨fz.1, fz.2, (fun p b => dom b.1), .dic upd_same .nil (fun p z => ?_), fun p o e => ⟨fun z => ?_, fun z => ?_⟩, fun p o e => ⟨inH e, fun z => ?_⟩, ⟨fun z => ?_, fun z => hn.2 z.symm⟩, fun p z => ⟨fun y => ?_, fun y => ?_⟩, fun p b z => ?_, ?_⟩⟩
      · cases z; exact ⟨rfl, fun z => z.2 rfl⟩
      · rw [er.sub p o e] at z; cases z
      · rw [z, f] at e; cases e
      · rw [z, hn.1] at e; cases e
      · rw [h.la] at z; cases z
      · obtain ⟨_, us, e⟩ := Own.tracked er z; rw [e] at y; cases y
      · rw [y] at z; exact no z
      · rw [upd_ne b.2]; exact z
      · rw [hd]; exact r2.keep .refl fun p o z e => ⟨z.1, by rw [e]; exact (fun z => nomatch z), z.2⟩
theorem forR_core {K : PySem.W.Frag} {is : List Nat} {iv : Nat} {D : Ends} {a : Addr} {ws : List V} {rs : List RV} (hiv : iv ∈ is) (hpn : ∀ j, j ∈ is → pn j = false)
    (st0 : RAt c pn is σ0 ρ0 F0 H0 (wipeE ρ is) F a ws rs 0 σ H) (run : (forR iv g rs (wipeE ρ is)).run (OkS c pn σ0 ρ0 F0 H0 D) (ErS c pn W σ0 ρ0 F0 H0)) :
    ∃ W0 : Nat → Nat → St → Hp → Prop, (∃ m, W0 0 m σ H) ∧ ∀ i m σ H, W0 i m σ H → ((Itl K a).stop i H ∧ D.nx σ H) ∨ ((Itl K a).go i H ∧ ∃ N : St → Hp → Prop, (∀ σ' H', N σ' H' → ∃ m', m' < m ∧ W0 (i + 1) m' σ' H') ∧
      ∀ x H', (Itl K a).yld i H x H' → gName iv x σ H' fun σ2 H2 => ∃ B, tS (c.at B) (pnOf is) W g { D with nx := N, ct := N, bk := D.nx } σ2 H2) := by
  have len0 := st0.rr.length
  rw [List.drop_zero, List.drop_zero] at len0
  refine ⟨fun i m σ' H' => m = rs.length - i ∧ i ≤ rs.length ∧ RAt c pn is σ0 ρ0 F0 H0 (wipeE ρ is) F a ws rs i σ' H' ∧ (forR iv g (rs.drop i) (wipeE ρ is)).run (OkS c pn σ0 ρ0 F0 H0 D) (ErS c pn W σ0 ρ0 F0 H0),
    ⟨_, rfl, Nat.zero_le _, st0, run⟩, fun i m σ1 H1 hW => ?_⟩
  obtain ⟨rfl, hle, h, run⟩ := hW
  by_cases hi : i < rs.length
  · obtain ⟨r, rest, hr⟩ : ∃ r rest, rs.drop i = r :: rest := ⟨rs[i], rs.drop (i + 1), List.drop_eq_getElem_cons hi⟩
    have hrest : rs.drop (i + 1) = rest := by rw [← List.tail_drop, hr]; rfl
    obtain ⟨w, t, B, Fb, hw, ht, T⟩ := h.item hr
    rw [hr] at run
    have run2 := ht _ _ run
    refine .inr ⟨⟨ws, w, SqL.of h.la, hw⟩, fun σ' H' => RAt c pn is σ0 ρ0 F0 H0 (wipeE ρ is) F a ws rs (i + 1) σ' H' ∧ (forR iv g (rs.drop (i + 1)) (wipeE ρ is)).run (OkS c pn σ0 ρ0 F0 H0 D) (ErS c pn W σ0 ρ0 F0 H0),
      fun σ' H' z => ⟨rs.length - (i + 1), by omega, rfl, hi, z.1, z.2⟩, fun x H2 hy => ?_⟩
    obtain ⟨eH, hy⟩ := hy
    subst eH
    have e2 := hy ws (SqL.of h.la)
    rw [hw] at e2
    cases e2
    have er := h.st.2.1
    have er1 : ER (c.at B) Fb H2 σ1 (((wipeE ρ is).map SV.er).map SV.hid) := (er.er (B := B) T.bH).map T.inH (fun j o s h1 h2 z => by
      cases s with
      | fz v => obtain ⟨u, e, r⟩ := z; exact ⟨u, e, r.mono T.sub⟩
      | _ => trivial) (fun t z => by rw [hid_own] at z; cases z) T.bH
    have er2 := er1.set (i := iv) T.rep
    have nOwn : ∀ p, ¬ Own (σ1.set iv (some w)) (bodyE (wipeE ρ is) iv t) p := fun p z => by
      obtain ⟨j, s, h1, h2, h3⟩ := own_set z
      rw [List.getElem?_map] at h2
      obtain ⟨y, e1, rfl⟩ := Option.map_eq_some_iff.mp h2
      rw [hid_own] at h3
      cases h3
    have hpin : ∀ {σ' : St}, (∀ j, pnOf is j = true → σ'[j]? = (σ1.set iv (some w))[j]?) → ∀ j, j ∉ is → σ'[j]? = σ1[j]? := fun {σ'} q j hj => by
      rw [q j (by unfold pnOf; simpa using hj), List.getElem?_set_ne (fun z => hj (by rw [← z]; exact hiv))]
    have hlen : ∀ {σ' : St}, σ'.length = (σ1.set iv (some w)).length → σ'.length = σ1.length := fun {σ'} q => by rw [q, List.length_set]
    have rr := T.rr
    rw [← hrest] at rr
    have nxt : ∀ {σ' ρ' F' H'}, StpS (c.at B) (pnOf is) (σ1.set iv (some w)) (bodyE (wipeE ρ is) iv t) Fb H2 σ' ρ' F' H' → RAt c pn is σ0 ρ0 F0 H0 (wipeE ρ is) F a ws rs (i + 1) σ' H' := fun {σ' ρ' F' H'} s =>
      h.after (iv := iv) (w := w) (t := t) (B := B) (Fb := Fb) (Fb' := Fb) (ρb := ρ) hiv T.sub (hlen s.2.2.2) (hpin s.2.2.1) hpn B (fun p o e _ => (s.1.hh p o e (nOwn p)).1) T.hF T.hn0 T.ha s.1.th rr T.hN
    have nxt2 : ∀ {σ' ρ' H'}, Thw (c.at B) (pnOf is) (σ1.set iv (some w)) (bodyE (wipeE ρ is) iv t) H2 σ' ρ' H' → RAt c pn is σ0 ρ0 F0 H0 (wipeE ρ is) F a ws rs (i + 1) σ' H' := fun {σ' ρ' H'} s =>
      h.after (iv := iv) (w := w) (t := t) (B := B) (Fb := Fb) (Fb' := Fb) (ρb := ρ) hiv T.sub (hlen s.len) (hpin s.pn) hpn B (fun p o e b => s.hh p o e (nOwn p) b) T.hF T.hn0 T.ha s.th rr T.hN
    refine ⟨B, _, Fb, er2, (g _).mono (fun o q => ?_) (fun e q => q.elim) run2⟩
    cases o with
    | nx ρ' => exact fun σ' F' H' s => ⟨nxt s, by rw [hrest]; exact q⟩
    | ct ρ' => exact fun σ' F' H' s => ⟨nxt s, by rw [hrest]; exact q⟩
    | bk ρ' => exact q.elim
    | rt v ρ' =>
      refine fun u σ' F' H' s rp => (show OkS c pn σ0 ρ0 F0 H0 D (.rt v.er (wipeE ρ is)) from q) u σ' F' H' ?_ (rp.er (B := c.B))
      have n := nxt s
      refine ⟨⟨n.st.1.ff.trans (T.sub.trans s.1.ff), fun p o e no => ⟨(n.st.1.hh p o e no).1, fun z => ?_⟩, n.st.1.th, n.st.1.ow⟩, ?_, n.st.2.2.1, n.st.2.2.2⟩
      · obtain ⟨a1, a2⟩ := h.st.1.hh p o e no
        exact (s.1.hh p o a1 (nOwn p)).2 (T.hFb p (T.hn0 p o e) (a2 z))
      · have e0 := n.st.2.1
        have hf : ∀ p vs, H' p = some (.lst vs) → Own σ' (wipeE ρ is) p → F' p = none := fun p vs _ z => by
          have z1 : Own σ1 (wipeE ρ is) p := by
            obtain ⟨j, y, b1, b2, b3⟩ := z
            refine ⟨j, y, ?_, b2, b3⟩
            rw [← hpin s.2.2.1 j (fun hj => by rw [wipeE_get, if_pos hj] at b2; split at b2 <;> cases b2; cases b3)]
            exact b1
          obtain ⟨f1, us, h1⟩ := Own.tracked er z1
          exact (s.1.hh p _ h1 (nOwn p)).2 (T.hFb p (T.hN p z1) f1)
        refine ⟨s.2.1.sub, e0.len, fun j o y h1 h2 => ?_, e0.dis, e0.mrk⟩
        have z := e0.slot j o y h1 h2
        cases y with
        | un => trivial
        | fz v => obtain ⟨x, e, r⟩ := z; exact ⟨x, e, r.mono (T.sub.trans s.1.ff)⟩
        | ow xs => obtain ⟨p, us, e, f, b, r⟩ := z; subst e; exact ⟨p, us, rfl, hf p us b ⟨j, _, h1, h2, rfl⟩, b, r.mono (T.sub.trans s.1.ff)⟩
        | bx k => obtain ⟨p, us, e, f, b, r⟩ := z; subst e; exact ⟨p, us, rfl, hf p us b ⟨j, _, h1, h2, rfl⟩, b, r⟩
    | th o ρ' => cases o with
      | none => exact fun σ' H' s => ⟨fun _ => ⟨nxt2 s, by rw [hrest]; exact q⟩, fun b z => nomatch z⟩
      | some b => exact fun σ' H' s => ⟨(fun z => nomatch z), fun b' z => by
          cases z
          exact (show OkS c pn σ0 ρ0 F0 H0 D (.rt (.bl b) (wipeE ρ is)) from q) (.bl b) σ' F H' (nxt2 s).st (.bl b)⟩
  · have e : i = rs.length := by omega
    subst e
    rw [List.drop_length] at run
    exact .inl ⟨⟨ws, SqL.of h.la, by omega⟩, run σ1 F H1 h.st⟩
/-! ### the statements -/
theorem er_wipeE {is : List Nat} (er : ER c F H σ ρ) : ER c F H σ (wipeE ρ is) := by
  have get : ∀ {j : Nat} {s : SV}, (wipeE ρ is)[j]? = some s → s ≠ .un → ρ[j]? = some s := fun {j s} e n => by
    rw [wipeE_get] at e
    split at e
    · split at e
      · cases e; exact absurd rfl n
      · cases e
    · exact e
  refine ⟨er.sub, by rw [wipeE_length]; exact er.len, fun j o s h1 h2 => ?_, fun j k s t p h1 h2 h3 h4 h5 h6 => er.dis j k s t p h1 h2 (get h3 fun z => by rw [z] at h5; cases h5) (get h4 fun z => by rw [z] at h6; cases h6) h5 h6, er.mrk⟩
  by_cases e : s = .un
  · subst e; trivial
  · exact er.slot j o s h1 (get h2 e)
theorem own_wipeE {is : List Nat} {p : Addr} (h : Own σ (wipeE ρ is) p) : Own σ ρ p := by
  obtain ⟨j, s, h1, h2, h3⟩ := h
  rw [wipeE_get] at h2
  split at h2
  · split at h2
    · cases h2; cases h3
    · cases h2
  · exact ⟨j, s, h1, h2, h3⟩
theorem rat0 {is : List Nat} {a : Addr} {ws : List V} {rs : List RV} (st : StpS c pn σ0 ρ0 F0 H0 σ ρ F H) (la : H a = some (.lst ws)) (no : ¬ Own σ ρ a) (Fa : F a = none) (rr : RReps c σ ρ F H (fun x => H0 x = none ∧ x ≠ a) ws rs) :
    RAt c pn is σ0 ρ0 F0 H0 (wipeE ρ is) F a ws rs 0 σ H :=
  ⟨⟨st.1.less fun p z => own_wipeE z, er_wipeE st.2.1, st.2.2.1, st.2.2.2⟩, la, fun z => no (own_wipeE z), Fa, by
    rw [List.drop_zero, List.drop_zero]
    exact rr.keep ⟨Same.refl F, fun p o _ h f n => ⟨h, f, fun z => n (own_wipeE z)⟩⟩ fun _ _ z _ => z⟩
theorem pss_any {body : List Stmt} {is : List Nat} (hb : ∀ B, PSs X body (tS (c.at B) (pnOf is) W g)) : PSs X body (fun D σ H => ∃ B, tS (c.at B) (pnOf is) W g D σ H) := ⟨fun pins s σ H D I ⟨B, h⟩ => (hb B).run pins s σ H D I h⟩
theorem tR_bindS {gr : GR} {k : List RV × Env' → Wp XE' Out} {D : Ends} {R : VK} (er : ER c F H σ ρ) (h : ((gr ρ).bind k).run (OkS c pn σ ρ F H D) (ErS c pn W σ ρ F H))
    (hk : ∀ rs ρ1 p ws F1 H1, StpE c σ ρ F H ρ1 F1 H1 → H p = none → F1 p = none → H1 p = some (.lst ws) → ¬ Own σ ρ1 p → RReps c σ ρ1 F1 H1 (fun a => H a = none ∧ a ≠ p) ws rs → (k (rs, ρ1)).run (OkS c pn σ ρ F H D) (ErS c pn W σ ρ F H) → R (.ref p) H1) : tR c W gr σ H R :=
  ⟨ρ, F, er, (gr ρ).mono (fun r h1 p ws F1 H1 st a b d e f => hk r.1 r.2 p ws F1 H1 st a b d e f h1) (fun _ z => z.e) h⟩
def sForR (iv : Nat) (is : List Nat) (gr : GR) (g : GS) : GS := fun ρ => (gr ρ).bind fun a => forR iv g a.1 (wipeE a.2 is)
theorem vs_forR {tg iter : Expr} {body : List Stmt} {is : List Nat} {iv : Nat} {gr : GR} (hp : PassesOwn (model X.prog X.w) X.A X.env X.xe) (hc : X.calm = true) (hi : PE X iter (tR c W gr)) (hg : PG X tg (gName iv)) (hiv : iv ∈ is) (hpn : ∀ j, j ∈ is → pn j = false)
    (hb : ∀ B, PSs X body (tS (c.at B) (pnOf is) W g)) (hs : ∀ x, foldedSetIterable iter X.env x = pure x := by intro _; rfl) : PS X (.For tg iter body [] pos) (tS c pn W (sForR iv is gr g)) :=
  imp_PS (ps_for hp hc (pi_any hi) hg (pss_any hb) hs) fun D σ H ⟨ρ, F, er, z⟩ => tR_bindS er z fun rs ρ1 p ws F1 H1 st hn hF hH no rr h1 =>
    .inl ⟨p, ws, rfl, SqL.of hH, forR_core hiv hpn (rat0 st.s hH no hF rr) h1⟩
/-- slot j holds such a list, known from outside -/
def tSR (c : Cn) (pn : Nat → Bool) (W : WX) (j : Nat) (G : List RV → GS) : TS := fun D σ H => ∃ σ0 ρ0 F0 H0 ρ F p ws rs, StpS c pn σ0 ρ0 F0 H0 σ ρ F H ∧ σ[j]? = some (some (.ref p)) ∧ F p = none ∧ ¬ Own σ ρ p ∧ H p = some (.lst ws) ∧ RReps c σ ρ F H (fun a => H0 a = none ∧ a ≠ p) ws rs ∧
  (G rs ρ).run (OkS c pn σ0 ρ0 F0 H0 D) (ErS c pn W σ0 ρ0 F0 H0)
def sSetR (j : Nat) (gr : GR) (G : List RV → GS) : GS := fun ρ => (gr ρ).bind fun a => if j < a.2.length then G a.1 (a.2.set j (.fz .any)) else .stuck
theorem vss_setR {rest : List Stmt} {e : Expr} {j : Nat} {x : Str} {pos' : Pos} {gr : GR} {G : List RV → GS} (hN : X.N.Nodup) (hi : X.N[j]? = some x) (hx : Loc X.env.scope x) (hp : pn j = false) (he : PE X e (tR c W gr)) (hrest : PSs X rest (tSR c pn W j G)) (hs : swapsWith e (some (.Name x pos')) pos.line X.env = pure false := by rfl)
    (hf : X.fn x = true ∨ X.env.scope.names.lookup x = some .local := by first | exact .inl rfl | exact .inr rfl | assumption) : PSs X (.Assign [.Name x pos'] e pos :: rest) (tS c pn W (sSetR j gr G)) :=
  imp_PSs (pss_cons (ps_set hN hi hx he hs hf) hrest) fun D σ H ⟨ρ, F, er, z⟩ => tR_bindS er z fun rs ρ1 p ws F1 H1 st hn hF hH no rr h1 => by
    dsimp only at h1
    split at h1
    · rename_i hj
      have hl : j < σ.length := by rw [st.2.len]; exact hj
      refine ⟨σ, ρ, F, H, _, F1, p, ws, rs, ⟨st.1.less fun p q => own_set q, st.2.set (.any _), (fun i hi => List.getElem?_set_ne (fun q => by subst q; rw [hp] at hi; cases hi)), List.length_set⟩, List.getElem?_set_self hl, hF, fun z => no (own_set z), hH, ?_, h1⟩
      exact rr.keep ⟨Same.refl F1, fun q o _ h f n => ⟨h, f, fun z => n (own_set z)⟩⟩ fun _ _ z _ => z
    · exact h1.elim
def sForS (iv : Nat) (is : List Nat) (go : GO) (g : GS) : List RV → GS := fun rs ρ => (go ρ).bind fun i => forR iv g (cutP rs i.1 none) (wipeE i.2 is)
theorem vs_forRS {tg a : Expr} {lo : Option Expr} {body : List Stmt} {is : List Nat} {iv j : Nat} {p1 p2 : Pos} {go : GO} (hk : c.K = X.K) (hp : PassesOwn (model X.prog X.w) X.A X.env X.xe) (hc : X.calm = true) (ha : PE X a (tVar j)) (hl : PO X lo (tO c W go)) (hg : PG X tg (gName iv)) (hiv : iv ∈ is) (hpn : ∀ j, j ∈ is → pn j = false)
    (hb : ∀ B, PSs X body (tS (c.at B) (pnOf is) W g)) (hs : ∀ x, foldedSetIterable (.Subscript a (.Slice lo none none p2) p1) X.env x = pure x := by intro _; rfl) : PS X (.For tg (.Subscript a (.Slice lo none none p2) p1) body [] pos) (tSR c pn W j (sForS iv is go g)) :=
  imp_PS (ps_for hp hc (pi_any (pe_slice sl_list ha hl po_none)) hg (pss_any hb) hs) fun D σ H ⟨σ0, ρ0, F0, H0, ρ, F, p, ws, rs, st, hj, hF, no, hH, rr, z⟩ => by
    refine ⟨_, hj, ρ, F, st.2.1, (go ρ).mono (fun i h1 F1 H1 s1 => ?_) (fun e q => (q.step st).e) z⟩
    obtain ⟨a1, a2, a3⟩ := (StpE.keeps (N := fun _ => True) s1).hh p _ trivial hH hF no
    refine ⟨p, ws, rfl, SqL.of a1, fun q hq => ?_⟩
    have gq := upd_growH (o := .lst (cutV ws i.1 none)) s1.2.sub hq
    have s2 := gq.stpE s1.2
    have s12 := s1.trans s2
    refine .inl ⟨q, _, rfl, SqL.of upd_same, forR_core hiv hpn (rat0 (st.trans s12.s) upd_same (not_own_new s1.2 hq) (s1.2.sub.free hq) (RReps.cut ?_ i.1 none)) h1⟩
    exact (rr.keep (N := _) (M := fun x => H0 x = none ∧ x ≠ q) .refl fun x o h e => ⟨h.1, fun z => by
      have := none_of_th s1 (show H1 x = none by rw [z]; exact hq)
      rw [this] at e
      cases e⟩).keep s12.keeps fun _ _ z _ => z
theorem vs_forRN {tg a : Expr} {body : List Stmt} {is : List Nat} {iv j : Nat} (hp : PassesOwn (model X.prog X.w) X.A X.env X.xe) (hc : X.calm = true) (ha : PE X a (tVar j)) (hg : PG X tg (gName iv)) (hiv : iv ∈ is) (hpn : ∀ j, j ∈ is → pn j = false)
    (hb : ∀ B, PSs X body (tS (c.at B) (pnOf is) W g)) (hs : ∀ x, foldedSetIterable a X.env x = pure x := by intro _; rfl) : PS X (.For tg a body [] pos) (tSR c pn W j fun rs ρ => forR iv g rs (wipeE ρ is)) :=
  imp_PS (ps_for hp hc (pi_any ha) hg (pss_any hb) hs) fun D σ H ⟨σ0, ρ0, F0, H0, ρ, F, p, ws, rs, st, hj, hF, no, hH, rr, z⟩ =>
    ⟨_, hj, .inl ⟨p, ws, rfl, SqL.of hH, forR_core hiv hpn (rat0 st hH no hF rr) z⟩⟩
/-- .. where no change is seen from outside -/
def sSeqN (g h : GS) : GS := fun ρ => (g ρ).bind fun o => match o with
  | .nx ρ1 => h ρ1
  | .th none _ => .stuck
  | o => .ret o
theorem vss_consR {st : Stmt} {rest : List Stmt} {j : Nat} {G : List RV → GS} {h : GS} (h1 : PS X st (tSR c pn W j G)) (h2 : PSs X rest (tS c pn W h)) : PSs X (st :: rest) (tSR c pn W j fun rs => sSeqN (G rs) h) :=
  imp_PSs (pss_cons h1 h2) fun D σ H ⟨σ0, ρ0, F0, H0, ρ, F, p, ws, rs, s, hj, hF, no, hH, rr, z⟩ => ⟨σ0, ρ0, F0, H0, ρ, F, p, ws, rs, s, hj, hF, no, hH, rr, (G rs ρ).mono (fun o q => by
    cases o with
    | nx ρ1 => exact fun σ' F' H' s => ⟨ρ1, F', s.2.1, run_stepS s q⟩
    | bk ρ1 => exact q
    | ct ρ1 => exact q
    | rt v ρ1 => exact q
    | th o ρ1 => cases o with
      | none => exact q.elim
      | some b => exact fun σ' H' t => ⟨(fun z => nomatch z), (show OkS c pn σ0 ρ0 F0 H0 D (.th (some b) ρ1) from q) σ' H' t |>.2⟩) (fun _ q => q) z⟩
end
end VL

set_option Elab.async false
set_option linter.all false
set_option maxRecDepth 100000
set_option maxHeartbeats 1000000
/-! VL, part 16: new lists of defs, the box, tables of the top, defs from the head. -/
namespace VL
open PySem PySem.Spec PyProof.Rows L2

/-! ### a def as the head tells it -/
theorem fun_of {K : PySem.W.Frag} {x qual : Str} {st : Stmt} {f : Addr} {fd : FuncData} (F : FunD K x qual (defArgs st) (defBody st) (defScope st) [] [] f fd) : Fun K x qual st f fd := by
  obtain ⟨oc, od, dV, kV, doc, pm, an, cdv, ct, osl, e, lk, hc, hd, hk⟩ := F.ex
  rcases hd with ⟨_, rfl⟩ | ⟨n, _⟩
  · exact ⟨⟨oc, od, kV, doc, pm, an, cdv, ct, osl, e, lk, hc⟩, F.kp⟩
  · exact absurd rfl n

/-! ### a def that gives a new list: its one statement returns it -/
abbrev GFL := List PV → Wp XE' (List PV)
def SpL (c : Cn) (n : Nat) (m : GFL) : Sp := fun vs H Q _ => vs.length = n ∧ ∃ F xs, Same F H ∧ (∀ p, c.B p → ∃ o, H p = some o) ∧ Reps c F vs xs ∧
  (m xs).run (fun ys => ∀ p us F' H', Grow F H F' H' → H p = none → F' p = none → H' p = some (.lst us) → Reps c F' us ys → Q (.ref p) H') (fun _ => False)
def fnL (n : Nat) (gl : GL) : GFL := fun xs => (noE (gl (fzs xs ++ List.replicate (n - xs.length) .un))).bind fun r => .ret r.1
section
variable {c : Cn} {P : Program} {w : World} {K : PySem.W.Frag} {mg : Str → Option Value} {base : Heap} {x qual : Str} {st : Stmt} {f : Addr} {fd : FuncData} {N ps : List Str} {k n : Nat}
theorem fnL_ok {gl : GL} {e : Expr} {pos : Pos} (Fn : Fun K x qual st f fd) (S : FnScope N ps (defScope st)) (hn : ps.length = n) (hl : ps.length ≤ N.length) (hd : defBody st = [.Return (some e) pos])
    (hbody : ∀ (cdv : Value) (A : Around) (outer : List Env) (s : Shared) (H : Hp) (E : XK), Room k (A.deeper (envOfC qual (defScope st) s.heap.objs.size f cdv)) →
      PE (cxOf (L2.CX P w) P w K mg base N qual (defScope st) f cdv A outer s H E) e (tL c (fun cls d _ H' => E cls d H') gl)) : FnOk P w K mg base (L2.CX P w) (k + 1) f fd ps (SpL c n (fnL N.length gl)) :=
  Fn.okX S (fun vs H Q E h => h.1.trans hn.symm) fun cdv A outer s H vs Q E hr h => by
    refine ⟨_, by rw [hd]; exact pss_one (ps_ret (hbody cdv A outer s H E hr)), ?_⟩
    obtain ⟨hv, F, xs, sub, mk, rep, z⟩ := h
    have er := rep.er sub mk
    have hvl : vs.length ≤ N.length := by omega
    obtain ⟨er0, ow0⟩ := er_enter er hvl
    have nOwn : ∀ p, ¬ Own (L2.start N vs) (fzs xs ++ List.replicate (N.length - (fzs xs).length) .un) p := fun p z => fzs_own ((ow0 p).mp z)
    have hx : (fzs xs).length = xs.length := by unfold fzs; rw [List.length_map]
    unfold fnL at z
    rw [hx] at er0 nOwn
    refine ⟨_, F, er0, (gl _).mono (fun r q p us F' H' st' h1 h2 h3 h4 h5 => ?_) (fun e q => q.elim) z⟩
    exact q p us F' H' ⟨st'.1.ff, fun a o z => (st'.1.hh a o z (nOwn a)).1, st'.2.sub, fun a o z => (st'.1.hh a o z (nOwn a)).2⟩ h1 h2 h3 h5
end
structure FvL (P : Program) (w : World) (K : PySem.W.Frag) (mg : Str → Option Value) (base : Heap) (c : Cn) (k : Nat) (x : Str) (n : Nat) (m : GFL) : Prop where
  ex : ∃ (f : Addr) (fd : FuncData) (ps : List Str), ps.length = n ∧ mg x = some (.ref f) ∧ FnOk P w K mg base (L2.CX P w) k f fd ps (SpL c n m) ∧ PySem.W.keepIn K (.ref f) = true ∧ Binds K fd ps []
def lCall (m : GFL) (ga : GA) : GL := fun ρ => (ga ρ).bind fun a => (noE (m a.1)).bind fun r => .ret (r, a.2)
section
variable {c : Cn} {X : Cx} {W : WX} {pn : Nat → Bool} {pos p : Pos} {x : Str} {a b : Expr} {ga gb : GE}
theorem vl_callF {k j n : Nat} {m : GFL} {e : Expr} {es : List Expr} {ga : GA} (F : FvL X.prog X.w X.K X.mg X.base c k x n m) (hr : Room j X.A) (hj : k ≤ j) (hg : Gl X x) (tk : Takes X W) (ha : PA X (e :: es) (tA c W n ga))
    (hdb : (x == ("__debug__" : Str)) = false := by decide) (he : starEach (e :: es) X.env = (false, eval e X.env) :: starEach es X.env := by rfl) (hpl : (backTo pos (starEach es X.env)).any (·.1) = false := by rfl) :
    PE X (.Call (.Name x p) (e :: es) [] pos) (tL c W (lCall m ga)) := by
  obtain ⟨f, fd, ps, hp, hm, G, kp, hb⟩ := F.ex
  exact imp_PE (pe_callS G (hr.mono hj) hg hm kp hb (fun σ => passAt tk σ) ha hdb he hpl) fun σ H Q ⟨ρ, F, er, z⟩ =>
    tA_bind er z fun v ρ1 vs F1 H1 st rep hl h1 => ⟨hl, F1, v, st.2.sub, st.2.mrk, rep, (m v).mono (fun ys q p us F' H' gr h1 h2 h3 h4 => by
      have s2 := gr.stpE st.2
      exact q p us F' H' (st.trans s2) (none_of_th st h1) h2 h3 (fun z => not_own_new st.2 h1 z) h4) (fun _ z => z) h1⟩

/-! ### the box -/
def sBox (i : Nat) (g : GL) : GS := fun ρ => (g ρ).bind fun a => match a.1 with
  | [.int x, .bl _, .int d, .int m] => if 0 ≤ x ∧ 0 ≤ d ∧ d < 2147483629 ∧ 0 ≤ m then .ret (.nx (a.2.set i (.bx m.toNat))) else .stuck
  | _ => .stuck
theorem er_ownS {F H : Hp} {σ : St} {ρ : Env'} {i : Nat} {p : Addr} {s0 : SV} (er : ER c F H σ ρ) (hs : SlotR c F H (some (.ref p)) s0) (no : ¬ Own σ ρ p) :
    ER c F H (σ.set i (some (.ref p))) (ρ.set i s0) ∧ ∀ q, Own (σ.set i (some (.ref p))) (ρ.set i s0) q → Own σ ρ q ∨ q = p := by
  have len : ∀ {s : SV} {y : SV}, (ρ.set i y)[i]? = some s → i < ρ.length := fun {s y} h => by
    have := (List.getElem?_eq_some_iff.mp h).1
    rwa [List.length_set] at this
  have at_ : ∀ {j s q}, (σ.set i (some (.ref p)))[j]? = some (some (.ref q)) → (ρ.set i s0)[j]? = some s → s.own = true → (j = i ∧ q = p) ∨ (j ≠ i ∧ σ[j]? = some (some (.ref q)) ∧ ρ[j]? = some s) := fun {j s q} h1 h2 h3 => by
    by_cases hj : i = j
    · subst hj
      have hl := len h2
      rw [List.getElem?_set_self (by rw [er.len]; exact hl)] at h1
      cases h1
      exact .inl ⟨rfl, rfl⟩
    · rw [List.getElem?_set_ne hj] at h1 h2
      exact .inr ⟨Ne.symm hj, h1, h2⟩
  refine ⟨⟨er.sub, by rw [List.length_set, List.length_set]; exact er.len, fun j o s h1 h2 => ?_, fun j k s t q h1 h2 h3 h4 h5 h6 => ?_, er.mrk⟩, fun q ⟨j, s, h1, h2, h3⟩ => ?_⟩
  · by_cases hj : i = j
    · subst hj
      have hl := len h2
      rw [List.getElem?_set_self hl] at h2
      rw [List.getElem?_set_self (by rw [er.len]; exact hl)] at h1
      cases h1
      cases h2
      exact hs
    · rw [List.getElem?_set_ne hj] at h1 h2
      exact er.slot j o s h1 h2
  · rcases at_ h1 h3 h5 with ⟨e1, e2⟩ | ⟨n1, a1, b1⟩
    · rcases at_ h2 h4 h6 with ⟨e3, e4⟩ | ⟨n2, a2, b2⟩
      · exact e1.trans e3.symm
      · subst e2
        exact absurd ⟨k, t, a2, b2, h6⟩ no
    · rcases at_ h2 h4 h6 with ⟨e3, e4⟩ | ⟨n2, a2, b2⟩
      · subst e4
        exact absurd ⟨j, s, a1, b1, h5⟩ no
      · exact er.dis j k s t q a1 a2 b1 b2 h5 h6
  · rcases at_ h1 h2 h3 with ⟨e1, e2⟩ | ⟨n1, a1, b1⟩
    · exact .inr e2
    · exact .inl ⟨j, s, a1, b1, h3⟩
theorem vs_box {i : Nat} {e : Expr} {x : Str} {pos' : Pos} {gl : GL} (hN : X.N.Nodup) (hi : X.N[i]? = some x) (hx : Loc X.env.scope x) (hp : pn i = false) (he : PE X e (tL c W gl)) (hs : swapsWith e (some (.Name x pos')) pos.line X.env = pure false := by rfl)
    (hf : X.fn x = true ∨ X.env.scope.names.lookup x = some .local := by first | exact .inl rfl | exact .inr rfl | assumption) : PS X (.Assign [.Name x pos'] e pos) (tS c pn W (sBox i gl)) :=
  imp_PS (ps_set hN hi hx he hs hf) fun D σ H ⟨ρ, F, er, z⟩ => ⟨ρ, F, er, (gl ρ).mono (fun r h1 p vs F1 H1 st hn hF hH no rep => by
    obtain ⟨v, ρ1⟩ := r
    dsimp only at h1
    split at h1
    · rename_i a b d m
      split at h1
      · rename_i hz
        have ev : vs = [.int a, .bl b, .int d, .int m] := by
          cases rep with
          | cons r1 t1 => cases t1 with
            | cons r2 t2 => cases t2 with
              | cons r3 t3 => cases t3 with
                | cons r4 t4 => cases t4; cases r1; cases r2; cases r3; cases r4; rfl
        subst ev
        obtain ⟨er2, ow2⟩ := er_ownS (i := i) (s0 := .bx m.toNat) st.2 ⟨p, _, rfl, hF, hH, a, b, d, m, rfl, hz.1, hz.2.1, hz.2.2.1, hz.2.2.2, by omega⟩ no
        refine h1 _ F1 H1 ⟨⟨st.1.ff, st.1.hh, st.1.th, fun q z => ?_⟩, er2, (fun j hj => List.getElem?_set_ne (fun q => by subst q; rw [hp] at hj; cases hj)), List.length_set⟩
        rcases ow2 q z with z | z
        · exact st.1.ow q z
        · subst z; exact .inr hn
      · exact h1.elim
    · exact h1.elim) (fun _ q => q.e) z⟩
end
/-- the next digit, whatever it is -/
def mTake : GF := fun ss => match ss with
  | [.bx n, .fz (.int many)] => if 0 < many ∧ many < 1073741824 ∧ n < 4294967296 then .all (fun d : Int => 0 ≤ d ∧ d < many) fun d => .ret (.int d, [.bx (n + 1), .un]) else .stuck
  | _ => .stuck
/-- what a def for digits does with the box's four entries -/
def TakesBox (m : GF) : Prop := ∀ (a : Int) (b : Bool) (d k : Int) (n : Nat) (many : Int) (K : PV × List SV → Prop) (E : XE' → Prop), 0 ≤ a → 0 ≤ d → d < 2147483629 → 0 ≤ k → k ≤ n → 0 < many → many < 1073741824 → n < 4294967296 →
  (∀ (a' : Int) (b' : Bool) (d' k' z : Int), 0 ≤ a' → 0 ≤ d' → d' < 2147483629 → 0 ≤ k' → k' ≤ n + 1 → 0 ≤ z → z < many → K (.int z, [.ow [.int a', .bl b', .int d', .int k'], .un])) → (m [.ow [.int a, .bl b, .int d, .int k], .fz (.int many)]).run K E
theorem reps4 {c : Cn} {F : Hp} {vs : List V} {a d m : Int} {b : Bool} (rep : Reps c F vs [.int a, .bl b, .int d, .int m]) : vs = [.int a, .bl b, .int d, .int m] := by
  cases rep with
  | cons r1 t1 => cases t1 with
    | cons r2 t2 => cases t2 with
      | cons r3 t3 => cases t3 with
        | cons r4 t4 => cases t4; cases r1; cases r2; cases r3; cases r4; rfl
theorem er_view {c : Cn} {F H : Hp} {σ : St} {ρ : Env'} {i : Nat} {s s' : SV} (er : ER c F H σ ρ) (hi : ρ[i]? = some s) (ho : s.own = true) (ho' : s'.own = true) (hs : ∀ o, σ[i]? = some o → SlotR c F H o s') :
    ER c F H σ (ρ.set i s') ∧ ∀ p, Own σ (ρ.set i s') p ↔ Own σ ρ p := by
  have hil : i < ρ.length := (List.getElem?_eq_some_iff.mp hi).1
  have get : ∀ {j : Nat} {t : SV}, (ρ.set i s')[j]? = some t → t.own = true → ∃ t', ρ[j]? = some t' ∧ t'.own = true := fun {j t} h o => by
    by_cases hj : i = j
    · subst hj; exact ⟨s, hi, ho⟩
    · rw [List.getElem?_set_ne hj] at h; exact ⟨t, h, o⟩
  have get' : ∀ {j : Nat} {t : SV}, ρ[j]? = some t → t.own = true → ∃ t', (ρ.set i s')[j]? = some t' ∧ t'.own = true := fun {j t} h o => by
    by_cases hj : i = j
    · subst hj; exact ⟨s', List.getElem?_set_self hil, ho'⟩
    · exact ⟨t, by rw [List.getElem?_set_ne hj]; exact h, o⟩
  refine ⟨⟨er.sub, by rw [List.length_set]; exact er.len, fun j o t h1 h2 => ?_, fun j k t u p h1 h2 h3 h4 h5 h6 => ?_, er.mrk⟩, fun p => ⟨fun ⟨j, t, h1, h2, h3⟩ => ?_, fun ⟨j, t, h1, h2, h3⟩ => ?_⟩⟩
  · by_cases hj : i = j
    · subst hj
      rw [List.getElem?_set_self hil] at h2
      cases h2
      exact hs o h1
    · rw [List.getElem?_set_ne hj] at h2
      exact er.slot j o t h1 h2
  · obtain ⟨t1, a1, b1⟩ := get h3 h5
    obtain ⟨t2, a2, b2⟩ := get h4 h6
    exact er.dis j k t1 t2 p h1 h2 a1 a2 b1 b2
  · obtain ⟨t1, a1, b1⟩ := get h2 h3
    exact ⟨j, t1, h1, a1, b1⟩
  · obtain ⟨t1, a1, b1⟩ := get' h2 h3
    exact ⟨j, t1, h1, a1, b1⟩
theorem take_sp {c : Cn} {m : GF} (T : TakesBox m) {vs : List V} {H : Hp} {Q : VK} {E : XK} (h : SpV c 2 mTake vs H Q E) : SpV c 2 m vs H Q E := by
  obtain ⟨hl, F, ss, er, z⟩ := h
  unfold mTake at z
  split at z
  · rename_i n many
    split at z
    · rename_i hz
      obtain ⟨p, us, e1, hF, hH, a, b, d, k, rfl, h1, h2, h3, h4, h5⟩ := er.bx (i := 0) rfl
      obtain ⟨er2, ow2⟩ := er_view (s' := .ow [.int a, .bl b, .int d, .int k]) er (i := 0) rfl rfl rfl fun o ho => by
        rw [e1] at ho
        cases ho
        exact ⟨p, _, rfl, hF, hH, .cons (.int a) (.cons (.bl b) (.cons (.int d) (.cons (.int k) .nil)))⟩
      refine ⟨hl, F, _, er2, T a b d k n many _ _ h1 h2 h3 h4 h5 hz.1 hz.2.1 hz.2.2 fun a' b' d' k' q g1 g2 g3 g4 g5 g6 g7 => ?_⟩
      intro w F' H' st rp
      obtain ⟨p', us', e1', hF', hH', r'⟩ := st.2.ow (i := 0) rfl
      have e4 := reps4 r'
      subst e4
      obtain ⟨er3, ow3⟩ := er_view (s' := .bx (n + 1)) st.2 (i := 0) rfl rfl rfl fun o ho => by
        rw [e1'] at ho
        cases ho
        exact ⟨p', _, rfl, hF', hH', a', b', d', k', rfl, g1, g2, g3, g4, by omega⟩
      exact z q ⟨g6, g7⟩ w F' H' ⟨⟨st.1.ff, fun x o e no => st.1.hh x o e fun y => no ((ow2 x).mp y), st.1.th, fun x y => (st.1.ow x ((ow3 x).mp y)).imp (ow2 x).mp id⟩, er3⟩ rp
    · exact z.elim
  · exact z.elim
theorem take_fn {c : Cn} {P : Program} {w : World} {K : PySem.W.Frag} {mg : Str → Option Value} {base : Heap} {f : Addr} {fd : FuncData} {ps : List Str} {k : Nat} {m : GF} (T : TakesBox m) (F : FnOk P w K mg base (L2.CX P w) k f fd ps (SpV c 2 m)) :
    FnOk P w K mg base (L2.CX P w) k f fd ps (SpV c 2 mTake) := F.imp fun vs H Q E h => take_sp T h
theorem Fv.take {c : Cn} {P : Program} {w : World} {K : PySem.W.Frag} {mg : Str → Option Value} {base : Heap} {x : Str} {k : Nat} {m : GF} (T : TakesBox m) (F : Fv P w K mg base c k x 2 m) : Fv P w K mg base c k x 2 mTake := by
  obtain ⟨f, fd, ps, h1, h2, h3, h4, h5⟩ := F.ex
  exact ⟨f, fd, ps, h1, h2, take_fn T h3, h4, h5⟩

/-! ### a table of the top -/
def scalO : Value → Option V
  | .bool b => some (.bl b)
  | .none => some .non
  | .int i _ => some (.int i)
  | .str x _ => some (.str x)
  | _ => none
def entO (e : DictEntry) : Option (Str × V) := match e.key with
  | .str x _ => (scalO e.val).map fun v => (x, v)
  | _ => none
def tabB (K : PySem.W.Frag) (d : Addr) (kvs : List (Str × V)) : Bool := match K.lookup d with
  | some ⟨_, _, .dict es _, _⟩ => decide (es.toList.map entO = kvs.map some)
  | _ => false
theorem scalO_ok {u : Value} {v : V} (h : scalO u = some v) : RelV v u := by
  cases u <;> simp only [scalO] at h <;> first | (cases h; first | rfl | exact ⟨_, rfl⟩) | cases h
theorem find_ent {z : Str} : ∀ {es : List DictEntry} {kvs : List (Str × V)}, es.map entO = kvs.map some →
    (match kvs.lookup z with | some v => ∃ e, es.find? (·.key.isStr z) = some e ∧ RelV v e.val | none => es.find? (·.key.isStr z) = none) ∧ es.any (·.refKey) = false
  | [], [], _ => ⟨rfl, rfl⟩
  | [], _ :: _, h => by cases h
  | _ :: _, [], h => by cases h
  | e :: es, (k, v) :: kvs, h => by
    simp only [List.map_cons, List.cons.injEq] at h
    obtain ⟨h1, h2⟩ := h
    obtain ⟨r1, r2⟩ := find_ent (z := z) h2
    unfold entO at h1
    split at h1
    · rename_i y t hk
      obtain ⟨u, hu, e2⟩ := Option.map_eq_some_iff.mp h1
      cases e2
      have e3 : e.key.isStr z = (k == z) := by rw [hk]; rfl
      have e4 : e.refKey = false := by unfold DictEntry.refKey; rw [hk]
      refine ⟨?_, by rw [List.any_cons, e4, r2]; rfl⟩
      rw [List.lookup_cons, List.find?_cons, e3]
      by_cases hz : k = z
      · subst hz
        simp only [beq_self_eq_true]
        exact ⟨e, rfl, scalO_ok hu⟩
      · have a1 : (k == z) = false := by simpa using hz
        have a2 : (z == k) = false := by simpa using fun q => hz q.symm
        rw [a1, a2]
        exact r1
    · cases h1
structure TabK (K : PySem.W.Frag) (w : World) (mg : Str → Option Value) (x : Str) (kvs : List (Str × V)) : Prop where
  ex : ∃ d es n, mg x = some (.ref d) ∧ KDict K w d es n ∧ ∀ z, ∃ r, PySem.W.nsIn K d z = some r ∧ match kvs.lookup z with | some v => ∃ u, r = some u ∧ RelV v u | none => r = none
theorem tab_ok {K : PySem.W.Frag} {w : World} {mg : Str → Option Value} {x : Str} {kvs : List (Str × V)} {d : Addr} {es : Array DictEntry} {n : Nat} (hm : mg x = some (.ref d)) (D : KDict K w d es n) (h : tabB K d kvs = true) : TabK K w mg x kvs := by
  refine ⟨d, es, n, hm, D, fun z => ?_⟩
  unfold tabB at h
  rw [D.at_] at h
  obtain ⟨r1, r2⟩ := find_ent (z := z) (of_decide_eq_true h)
  unfold PySem.W.nsIn
  rw [D.at_]
  dsimp only
  cases hl : kvs.lookup z with
  | none =>
    rw [hl] at r1
    rw [r1, r2]
    exact ⟨none, rfl, rfl⟩
  | some v =>
    rw [hl] at r1
    obtain ⟨e, h1, h2⟩ := r1
    rw [h1]
    exact ⟨some e.val, rfl, e.val, rfl, h2⟩
def vPV : V → PV
  | .non => .non
  | .bl b => .bl b
  | .int i => .int i
  | .str x => .str x
  | _ => .any
theorem vPV_rep {c : Cn} {F : Hp} : ∀ v : V, Rep c F v (vPV v)
  | .non => .non
  | .bl b => .bl b
  | .int i => .int i
  | .str x => .str x
  | .byt b => .any _
  | .flt b => .any _
  | .ref a => .any _
  | .ty n => .any _
def tabIn (kvs : List (Str × V)) : PV → Option PV
  | .str z => some (.bl (kvs.lookup z).isSome)
  | _ => none
def tabIx (kvs : List (Str × V)) : PV → Option PV
  | .str z => (kvs.lookup z).map vPV
  | _ => none
section
variable {c : Cn} {X : Cx} {W : WX} {a : Expr} {ga : GE} {x : Str} {pos p : Pos} {kvs : List (Str × V)}
theorem ve_tabIn (T : TabK X.K X.w X.mg x kvs) (hg : Gl X x) (ha : PE X a (tE c W ga)) (hm : behindInMarks .In (.Name x p) = false := by rfl) (hd : (x == ("__debug__" : Str)) = false := by decide) : PE X (.Compare a [.In] [.Name x p] pos) (tE c W (eOp1 (tabIn kvs) ga)) := by
  obtain ⟨d, es, n, hm', D, hz⟩ := T.ex
  refine imp_PE (pe_cmpR (op_in_kd D) ha (pe_glob hg hm' (v := .ref d) rfl hd) hm) fun σ H Q ⟨ρ, F, er, z⟩ => tE_bind er z fun v ρ1 w F1 H1 st rep h1 => ?_
  obtain ⟨u, e, h1⟩ := lift_run h1
  cases rep with
  | str y =>
    cases e
    obtain ⟨r, h2, h3⟩ := hz y
    have hb : r.isSome = (kvs.lookup y).isSome := by
      cases hl : kvs.lookup y with
      | none => rw [hl] at h3; dsimp only at h3; rw [h3]; rfl
      | some v => rw [hl] at h3; obtain ⟨u, e, _⟩ := h3; rw [e]; rfl
    exact ⟨y, r, rfl, rfl, h2, by rw [hb]; exact h1 _ F1 H1 st (.bl _)⟩
  | _ => cases e
theorem ve_tabIx (T : TabK X.K X.w X.mg x kvs) (hg : Gl X x) (ha : PE X a (tE c W ga)) (hs : PlainIx a := by intro _ _; rfl) (hd : (x == ("__debug__" : Str)) = false := by decide) : PE X (.Subscript (.Name x p) a pos) (tE c W (eOp1 (tabIx kvs) ga)) := by
  obtain ⟨d, es, n, hm', D, hz⟩ := T.ex
  refine imp_PE (pe_ix ix_kdict (pe_glob hg hm' (v := .ref d) rfl hd) ha hs) fun σ H Q ⟨ρ, F, er, z⟩ => tE_bind er z fun v ρ1 w F1 H1 st rep h1 => ?_
  obtain ⟨u, e, h1⟩ := lift_run h1
  cases rep with
  | str y =>
    obtain ⟨v, hl, e2⟩ := Option.map_eq_some_iff.mp (show (kvs.lookup y).map vPV = some u from e)
    obtain ⟨r, h2, h3⟩ := hz y
    rw [hl] at h3
    obtain ⟨u0, e3, h4⟩ := h3
    subst e2
    rw [e3] at h2
    exact ⟨d, y, v, rfl, rfl, ⟨es, n, u0, D.at_, D.lit, h2, h4⟩, h1 _ F1 H1 st (vPV_rep v)⟩
  | _ => cases e
end
end VL

set_option Elab.async false
set_option linter.all false
set_option maxRecDepth 100000
set_option maxHeartbeats 1000000
/-! VL, part 17: the text's own error classes with one field. -/
namespace VL
open PySem PySem.Spec PyProof.Rows L2

def oexB (K : PySem.W.Frag) (C : Addr) : Bool := match K.lookup C with
  | some ⟨.type "type", _, .cls cd, sl⟩ => (match cd.mro, sl.toList with
    | .ref C' :: bm, [_, _, _, _, some (.builtin n), _] => C' == C && (n == "ValueError.__new__" && (!cd.hasDel && (cd.hasDict && PySem.HandSPX.refsVE bm)))
    | _, _ => false)
  | _ => false
def excB (K : PySem.W.Frag) (x f : Str) : Bool := oexB K (He.ga K x) && (decide (PySem.W.findIn K (.ref (He.ga K x)) "__setattr__" = some (some (.builtin "object.__setattr__"))) &&
  (decide (PySem.W.subIn K (.ref (He.ga K x)) (.type "BaseException") = some true) && (decide (PySem.W.typeIn K (.ref (He.ga K x)) = some (.type "type")) && (PySem.W.keepIn K (.ref (He.ga K x)) &&
  (decide (PySem.W.findIn K (.ref (He.ga K x)) f = some none) && (decide (PySem.W.findIn K (.ref (He.ga K x)) "__init__" = some (some (.ref (He.ma K (He.ga K x) "__init__")))) &&
  (decide (PySem.W.typeIn K (.ref (He.ma K (He.ga K x) "__init__")) = some (.type "function")) && xfB K (He.ga K x))))))))
structure ExcT (K : PySem.W.Frag) (C fI : Addr) (f : Str) : Prop where
  T : OexC K C
  no : PySem.W.findIn K (.ref C) f = some none
  iC : PySem.W.findIn K (.ref C) "__init__" = some (some (.ref fI))
  tI : PySem.W.typeIn K (.ref fI) = some (.type "function")
  xf : XfC K C
theorem excB_ok {K : PySem.W.Frag} {x f : Str} (h : excB K x f = true) : ExcT K (He.ga K x) (He.ma K (He.ga K x) "__init__") f := by
  unfold excB at h
  simp only [Bool.and_eq_true, decide_eq_true_eq] at h
  obtain ⟨h1, h2, h3, h4, h5, h6, h7, h8, h9⟩ := h
  refine ⟨⟨?_, h2, h3, h4, h5⟩, h6, h7, h8, xfB_ok h9⟩
  unfold oexB at h1
  split at h1
  · rename_i dd cd sl ho
    split at h1
    · rename_i C' bm k0 k1 k2 k3 n k5 hm hs
      simp only [Bool.and_eq_true, beq_iff_eq, Bool.not_eq_true'] at h1
      obtain ⟨e1, e2, hdel, hdict, ht⟩ := h1
      subst e1
      subst e2
      obtain ⟨nm, bs, mro, ns, qn, hd, sn, sub, ab, col, del⟩ := cd
      dsimp only at hm hdel hdict
      subst hm hdel hdict
      have hsl : sl = #[k0, k1, k2, k3, some (.builtin "ValueError.__new__"), k5] := by
        obtain ⟨l⟩ := sl
        simp only at hs
        rw [hs]
      subst hsl
      exact ⟨nm, qn, ns, bs, bm, sn, sub, ab, col, dd, k0, k1, k2, k3, k5, ho, ht⟩
    · cases h1
  · cases h1
section
variable {P : Program} {w : World} {K : PySem.W.Frag} {mg : Str → Option Value} {base : Heap} {x qual f : Str} {st : Stmt} {C fI : Addr} {fd : FuncData} {k : Nat} {c : Cn}
theorem init_ok (T : ExcT K C fI f) (Fn : Fun K "__init__" qual st fI fd) (S : FnScope ["self", f] ["self", f] (defScope st))
    (hbody : ∀ (cdv : Value) (A : Around) (outer : List Env) (s : Shared) (H : Hp) (E : XK), PSs (cxOf (L2.CX P w) P w K mg base ["self", f] qual (defScope st) fI cdv A outer s H E) (defBody st) (tOst K f (tVar 0) (tVar 1))) : FnOk P w K mg base (L2.CX P w) (k + 1) fI fd ["self", f] (spInit C f) :=
  Fn.okX S (fun vs H Q E h => by obtain ⟨a, y, rfl, _⟩ := h; rfl) fun cdv A outer s H vs Q E hr h => by
    refine ⟨_, hbody cdv A outer s H E, ?_⟩
    obtain ⟨a, y, rfl, ha, q⟩ := h
    exact ⟨y, rfl, .ref a, rfl, a, C, rfl, T.T, T.no, .inl ⟨ha, fun dx h1 h2 => q dx h1 h2⟩⟩
/-- one class, number j -/
theorem ec_ok {j : Nat} (hc : c.K = K) (hC : c.cA j = C) (T : ExcT K C fI f) (gC : mg x = some (.ref C)) (F : FnOk P w K mg base (L2.CX P w) k fI fd ["self", f] (spInit C f)) (hb : Binds K fd ["self", f] []) : Ec P w K mg base c k x j f := by
  subst hC
  exact ⟨gC, T.T, fI, fd, ["self", f], rfl, T.iC, T.tI, F, hb⟩
end
def hdsOk (n : Nat) (hs : List Hd) : Bool := hs.all fun h => match h.i with
  | some i => decide (i < n)
  | none => match h.b with
    | .many l => l.all fun s => match s with
      | .c _ => true
      | .f _ => false
    | .one _ => true
theorem hdsOk_ok {n : Nat} {hs : List Hd} (h : hdsOk n hs = true) : ∀ h ∈ hs, ∀ l, h.b = .many l → (∃ x, SI.f x ∈ l) → ∃ i, h.i = some i ∧ i < n := fun x hx l hl ⟨y, hy⟩ => by
  have q := List.all_eq_true.mp h x hx
  cases e : x.i with
  | some i => rw [e] at q; exact ⟨i, rfl, of_decide_eq_true q⟩
  | none =>
    rw [e, hl] at q
    have q2 := List.all_eq_true.mp q _ hy
    cases q2
end VL

set_option Elab.async false
set_option linter.all false
set_option maxRecDepth 100000
set_option maxHeartbeats 1000000
/-! VL, part 18: how mirrors compute. -/
namespace VL
open PySem PySem.Spec PyProof.Rows L2
/-- a program's rest, kept from simp: only the first part is computed, then the rest -/
class Kt (ε α β : Type) where
  f : α → Wp ε β
def bindI {ε α β : Type} (m : Wp ε α) [k : Kt ε α β] : Wp ε β := m.bind k.f
@[simp ↓] theorem bind_I {ε α β : Type} (m : Wp ε α) (f : α → Wp ε β) : m.bind f = @bindI _ _ _ m ⟨f⟩ := (rfl)
@[simp] theorem bindI_ret {ε α β : Type} (a : α) (f : α → Wp ε β) : @bindI _ _ _ (.ret a) ⟨f⟩ = f a := (rfl)
@[simp] theorem bindI_stuck {ε α β : Type} (f : α → Wp ε β) : @bindI _ _ _ (.stuck) ⟨f⟩ = .stuck := (rfl)
@[simp] theorem bindI_raise {ε α β : Type} (e : ε) (f : α → Wp ε β) : @bindI _ _ _ (.raise e) ⟨f⟩ = .raise e := (rfl)
@[simp] theorem bindI_bindI {ε α β γ : Type} (m : Wp ε α) (f : α → Wp ε β) (g : β → Wp ε γ) : @bindI _ _ _ (@bindI _ _ _ m ⟨f⟩) ⟨g⟩ = @bindI _ _ _ m ⟨fun a => (f a).bind g⟩ := (rfl)
@[simp] theorem bindI_rets {ε α : Type} (m : Wp ε α) : @bindI _ _ _ m ⟨Wp.ret⟩ = m := (rfl)
@[simp] theorem run_bindI {ε α β : Type} (m : Wp ε α) (f : α → Wp ε β) (K : β → Prop) (E : ε → Prop) : (@bindI _ _ _ m ⟨f⟩).run K E = m.run (fun a => (f a).run K E) E := (rfl)
@[simp] theorem mapE_bindI {ε ε' α β : Type} (g : ε → ε') (m : Wp ε α) (f : α → Wp ε β) : (@bindI _ _ _ m ⟨f⟩).mapE g = @bindI _ _ _ (m.mapE g) ⟨fun a => (f a).mapE g⟩ := (rfl)
@[simp] theorem noE_bindI {ε ε' α β : Type} (m : Wp ε α) (f : α → Wp ε β) : (noE (@bindI _ _ _ m ⟨f⟩) : Wp ε' β) = @bindI _ _ _ (noE m) ⟨fun a => noE (f a)⟩ := (rfl)
@[simp] theorem noEx_bindI {α β : Type} (m : Wp XE' α) (f : α → Wp XE' β) : noEx (@bindI _ _ _ m ⟨f⟩) = @bindI _ _ _ (noEx m) ⟨fun a => noEx (f a)⟩ := (rfl)
section
variable {g h : GE} {t u : GT} {a b : GS} {ρ : Env'} {i j : Nat} {v : PV} {gl : GL} {ga : GA} {gi : GI} {m : GF} {f1 : PV → Option PV} {f2 : PV → PV → Option PV} {lo hi : GO}
@[simp] theorem c_eC : eC v ρ = .ret (v, ρ) := (rfl)
theorem c_eVar (e : ρ[i]? = some (.fz v)) : eVar i ρ = .ret (v, ρ) := by unfold eVar; rw [e]
@[simp] theorem c_eVar' : eVar i ρ = (match ρ[i]? with | some (.fz v) => .ret (v, ρ) | _ => .stuck) := (rfl)
@[simp] theorem c_eOp1 : eOp1 f1 g ρ = (g ρ).bind fun a => lift (f1 a.1) a.2 := (rfl)
@[simp] theorem c_eOp2 : eOp2 f2 g h ρ = (g ρ).bind fun a => (h a.2).bind fun b => lift (f2 a.1 b.1) b.2 := (rfl)
@[simp] theorem c_eAnd : eAnd g h ρ = (g ρ).bind fun a => match a.1 with | .bl true => h a.2 | .bl false => .ret (.bl false, a.2) | _ => .stuck := (rfl)
@[simp] theorem c_eOr : eOr g h ρ = (g ρ).bind fun a => match a.1 with | .bl false => h a.2 | .bl true => .ret (.bl true, a.2) | _ => .stuck := (rfl)
@[simp] theorem c_eNot : eNot g ρ = (g ρ).bind fun a => match a.1 with | .bl b => .ret (.bl (!b), a.2) | _ => .stuck := (rfl)
@[simp] theorem c_eIf : eIf t g h ρ = (t ρ).bind fun a => if a.1 = true then g a.2 else h a.2 := (rfl)
@[simp] theorem c_gVal : gVal g ρ = (g ρ).bind fun a => match truth a.1 with | some b => .ret (b, a.2) | none => .stuck := (rfl)
@[simp] theorem c_gBl : gBl g ρ = (g ρ).bind fun a => match a.1 with | .bl b => .ret (b, a.2) | _ => .stuck := (rfl)
@[simp] theorem c_gAnd : gAnd t u ρ = (t ρ).bind fun a => if a.1 = true then u a.2 else .ret (false, a.2) := (rfl)
@[simp] theorem c_gOr : gOr t u ρ = (t ρ).bind fun a => if a.1 = true then .ret (true, a.2) else u a.2 := (rfl)
@[simp] theorem c_gNot : gNot t ρ = (t ρ).bind fun a => .ret (!a.1, a.2) := (rfl)
@[simp] theorem c_gYes : gYes ρ = .ret (true, ρ) := (rfl)
@[simp] theorem c_aNil : aNil ρ = .ret ([], ρ) := (rfl)
@[simp] theorem c_aCons : aCons g ga ρ = (g ρ).bind fun a => (ga a.2).bind fun b => .ret (a.1 :: b.1, b.2) := (rfl)
@[simp] theorem c_eTup : eTup ga ρ = (ga ρ).bind fun a => if a.1.length ≤ sizeLine then .ret (.tup a.1, a.2) else .stuck := (rfl)
@[simp] theorem c_eLst : eLst gl ρ = (gl ρ).bind fun a => .ret (.lst none a.1, a.2) := (rfl)
@[simp] theorem c_lDisp : lDisp ga ρ = (ga ρ).bind fun a => if a.1.length ≤ sizeLine then .ret a else .stuck := (rfl)
@[simp] theorem c_oNone : oNone ρ = .ret (none, ρ) := (rfl)
@[simp] theorem c_oSome : oSome g ρ = (g ρ).bind fun a => match a.1 with | .int i => .ret (some i, a.2) | _ => .stuck := (rfl)
@[simp] theorem c_eSl {f : PV → Option Int → Option Int → Option PV} : eSl f g lo hi ρ = (g ρ).bind fun a => (lo a.2).bind fun i => (hi i.2).bind fun j => lift (f a.1 i.1 j.1) j.2 := (rfl)
@[simp] theorem c_eCall : eCall m ga ρ = (ga ρ).bind fun a => ((m (fzs a.1)).mapE fun e => (e.1, a.2)).bind fun r => .ret (r.1, a.2) := (rfl)
@[simp] theorem c_eStrM : eStrM f2 g h ρ = (g ρ).bind fun a => if isStr a.1 = true then (h a.2).bind fun b => lift (f2 a.1 b.1) b.2 else .stuck := (rfl)
@[simp] theorem c_lStrM {f : PV → PV → Option (List PV)} : lStrM f g h ρ = (g ρ).bind fun a => if isStr a.1 = true then (h a.2).bind fun b => lift' (f a.1 b.1) b.2 else .stuck := (rfl)
@[simp] theorem c_lOp1 {f : PV → Option (List PV)} : lOp1 f g ρ = (g ρ).bind fun a => lift' (f a.1) a.2 := (rfl)
@[simp] theorem c_eIxO : eIxO i g ρ = if ownAt ρ i = true then (g ρ).bind fun a => match a.2[i]? with | some (.ow xs) => lift (pIx (.lst none xs) a.1) a.2 | _ => .stuck else .stuck := (rfl)
@[simp] theorem c_sSeq : sSeq a b ρ = (a ρ).bind fun o => match o with | .nx ρ1 => b ρ1 | .th none ρ1 => (noE (b ρ1)).bind thOut | o => .ret o := (rfl)
@[simp] theorem c_sSeqN : sSeqN a b ρ = (a ρ).bind fun o => match o with | .nx ρ1 => b ρ1 | .th none _ => .stuck | o => .ret o := (rfl)
@[simp] theorem c_sNil : sNil ρ = .ret (.nx ρ) := (rfl)
@[simp] theorem c_sSet : sSet i g ρ = (g ρ).bind fun a => .ret (.nx (a.2.set i (.fz a.1))) := (rfl)
@[simp] theorem c_sOwn : sOwn i gl ρ = (gl ρ).bind fun a => .ret (.nx (a.2.set i (.ow a.1))) := (rfl)
@[simp] theorem c_sRet : sRet g ρ = (g ρ).bind fun a => .ret (.rt a.1 a.2) := (rfl)
@[simp] theorem c_sIf : sIf t a b ρ = (t ρ).bind fun c => if c.1 = true then a c.2 else b c.2 := (rfl)
@[simp] theorem c_sPutO {k : GE} : sPutO i k g ρ = (g ρ).bind fun v => if ownAt v.2 i = true then (k v.2).bind fun k => match k.2[i]? with
  | some (.ow xs) => match k.1 with
    | .int z => match ixN xs.length z with
      | some j => .ret (.nx (k.2.set i (.ow (xs.set j v.1))))
      | none => .stuck
    | _ => .stuck
  | _ => .stuck
  else .stuck := (rfl)
@[simp] theorem c_sAppO : sAppO i g ρ = if ownAt ρ i = true then (g ρ).bind fun a => match a.2[i]? with
  | some (.ow xs) => if xs.length < sizeLine then .ret (.nx (a.2.set i (.ow (xs ++ [a.1])))) else .stuck
  | _ => .stuck
  else .stuck := (rfl)
@[simp] theorem c_sRaise {k : Nat} {f : Str} : sRaise k f g ρ = (g ρ).bind fun a => .raise (⟨k, [(f, a.1)]⟩, a.2) := (rfl)
@[simp] theorem c_iSeq : iSeq g ρ = (g ρ).bind fun a => lift' (items a.1) a.2 := (rfl)
@[simp] theorem c_iRng : iRng g ρ = (g ρ).bind fun a => lift' (iRange a.1) a.2 := (rfl)
@[simp] theorem c_sFor {f : GG} : sFor f gi a ρ = (gi ρ).bind fun x => forLoop f a x.1 x.2 := (rfl)
@[simp] theorem c_sPub : sPub i a ρ = (match ρ[i]? with | some (.ow xs) => a (ρ.set i (.fz (.lst none xs))) | _ => .stuck) := (rfl)
@[simp] theorem sl_le {n : Nat} (h : n ≤ 16777216) : n ≤ sizeLine := by rw [sizeLine_eq]; exact h
@[simp] theorem c_eCallB {k : Nat} : eCallB m k ga ρ = (if ownAt ρ k = true then (ga ρ).bind fun a => boxCall m k a.1 a.2 else .stuck) := (rfl)
end
theorem fnV_eq {n : Nat} {pn : Nat → Bool} {g : GS} {ss : List SV} (h : pinned pn ss = true) : fnV n pn g ss = ((g (ss ++ List.replicate (n - ss.length) .un)).mapE fun e => (e.1, outs ss e.2)).bind fun o => match o with
  | .nx ρ => .ret (.non, outs ss ρ)
  | .rt v ρ => .ret (v, outs ss ρ)
  | _ => .stuck := by unfold fnV; rw [if_pos h] <;> rfl
end VL

set_option Elab.async false
set_option linter.all false
set_option maxRecDepth 100000
set_option maxHeartbeats 1000000
/-! VL, part 19: comprehensions without effects; the law's comparison. -/
namespace VL
open PySem PySem.Spec PyProof.Rows L2

/-! ### which built-in class is which -/
@[simp] theorem kb_NoneType_bool : kitB "NoneType" "bool" = some false := by decide +kernel
@[simp] theorem kb_NoneType_int : kitB "NoneType" "int" = some false := by decide +kernel
@[simp] theorem kb_NoneType_str : kitB "NoneType" "str" = some false := by decide +kernel
@[simp] theorem kb_NoneType_tuple : kitB "NoneType" "tuple" = some false := by decide +kernel
@[simp] theorem kb_NoneType_list : kitB "NoneType" "list" = some false := by decide +kernel
@[simp] theorem kb_NoneType_dict : kitB "NoneType" "dict" = some false := by decide +kernel
@[simp] theorem kb_bool_bool : kitB "bool" "bool" = some true := by decide +kernel
@[simp] theorem kb_bool_int : kitB "bool" "int" = some true := by decide +kernel
@[simp] theorem kb_bool_str : kitB "bool" "str" = some false := by decide +kernel
@[simp] theorem kb_bool_tuple : kitB "bool" "tuple" = some false := by decide +kernel
@[simp] theorem kb_bool_list : kitB "bool" "list" = some false := by decide +kernel
@[simp] theorem kb_bool_dict : kitB "bool" "dict" = some false := by decide +kernel
@[simp] theorem kb_int_bool : kitB "int" "bool" = some false := by decide +kernel
@[simp] theorem kb_int_int : kitB "int" "int" = some true := by decide +kernel
@[simp] theorem kb_int_str : kitB "int" "str" = some false := by decide +kernel
@[simp] theorem kb_int_tuple : kitB "int" "tuple" = some false := by decide +kernel
@[simp] theorem kb_int_list : kitB "int" "list" = some false := by decide +kernel
@[simp] theorem kb_int_dict : kitB "int" "dict" = some false := by decide +kernel
@[simp] theorem kb_str_bool : kitB "str" "bool" = some false := by decide +kernel
@[simp] theorem kb_str_int : kitB "str" "int" = some false := by decide +kernel
@[simp] theorem kb_str_str : kitB "str" "str" = some true := by decide +kernel
@[simp] theorem kb_str_tuple : kitB "str" "tuple" = some false := by decide +kernel
@[simp] theorem kb_str_list : kitB "str" "list" = some false := by decide +kernel
@[simp] theorem kb_str_dict : kitB "str" "dict" = some false := by decide +kernel
@[simp] theorem kb_tuple_bool : kitB "tuple" "bool" = some false := by decide +kernel
@[simp] theorem kb_tuple_int : kitB "tuple" "int" = some false := by decide +kernel
@[simp] theorem kb_tuple_str : kitB "tuple" "str" = some false := by decide +kernel
@[simp] theorem kb_tuple_tuple : kitB "tuple" "tuple" = some true := by decide +kernel
@[simp] theorem kb_tuple_list : kitB "tuple" "list" = some false := by decide +kernel
@[simp] theorem kb_tuple_dict : kitB "tuple" "dict" = some false := by decide +kernel
@[simp] theorem kb_list_bool : kitB "list" "bool" = some false := by decide +kernel
@[simp] theorem kb_list_int : kitB "list" "int" = some false := by decide +kernel
@[simp] theorem kb_list_str : kitB "list" "str" = some false := by decide +kernel
@[simp] theorem kb_list_tuple : kitB "list" "tuple" = some false := by decide +kernel
@[simp] theorem kb_list_list : kitB "list" "list" = some true := by decide +kernel
@[simp] theorem kb_list_dict : kitB "list" "dict" = some false := by decide +kernel
@[simp] theorem kb_dict_bool : kitB "dict" "bool" = some false := by decide +kernel
@[simp] theorem kb_dict_int : kitB "dict" "int" = some false := by decide +kernel
@[simp] theorem kb_dict_str : kitB "dict" "str" = some false := by decide +kernel
@[simp] theorem kb_dict_tuple : kitB "dict" "tuple" = some false := by decide +kernel
@[simp] theorem kb_dict_list : kitB "dict" "list" = some false := by decide +kernel
@[simp] theorem kb_dict_dict : kitB "dict" "dict" = some true := by decide +kernel
theorem lcLoop_pure {i : Nat} {gt : GT} {ge : GE} {p : PV → Bool} {f : PV → PV} {ρ : Env'} : ∀ (xs : List PV) (ρ1 : Env'), (ρ1 = ρ ∨ ∃ y, ρ1 = ρ.set i (.fz y)) →
    (∀ x ∈ xs, gt (ρ.set i (.fz x)) = .ret (p x, ρ.set i (.fz x)) ∧ (p x = true → ge (ρ.set i (.fz x)) = .ret (f x, ρ.set i (.fz x)))) →
    ∃ ρ', (ρ' = ρ ∨ ∃ y, ρ' = ρ.set i (.fz y)) ∧ lcLoop [i] (gN i) gt ge xs ρ1 = .ret ((xs.filter p).map f, ρ')
  | [], ρ1, h, _ => ⟨ρ1, h, rfl⟩
  | x :: xs, ρ1, h, hx => by
    have e : gN i x (wipeE ρ1 [i]) = some (ρ.set i (.fz x)) := by
      unfold gN wipeE wipeE
      rcases h with rfl | ⟨y, rfl⟩
      · rw [List.set_set]
      · rw [List.set_set, List.set_set]
    obtain ⟨h1, h2⟩ := hx x List.mem_cons_self
    obtain ⟨ρ', a, b⟩ := lcLoop_pure xs (ρ.set i (.fz x)) (.inr ⟨x, rfl⟩) fun y hy => hx y (List.mem_cons_of_mem _ hy)
    refine ⟨ρ', a, ?_⟩
    unfold lcLoop
    rw [e]
    simp only [h1, Wp.ret_bind]
    cases hp : p x with
    | true =>
      simp only [if_true, h2 hp, Wp.ret_bind, b, List.filter_cons, hp, List.map_cons]
    | false =>
      simp only [Bool.false_eq_true, if_false, b, List.filter_cons, hp]
theorem backE_one {i : Nat} {ρ ρ' : Env'} (h : ρ' = ρ ∨ ∃ y, ρ' = ρ.set i (.fz y)) (ho : ownAt ρ i = false) : backE ρ' ρ [i] = ρ := by
  unfold backE backE
  cases e : ρ[i]? with
  | none =>
    have hl : ρ.length ≤ i := by rwa [List.getElem?_eq_none_iff] at e
    rcases h with rfl | ⟨y, rfl⟩
    · rw [List.set_eq_of_length_le hl]
    · rw [List.set_set, List.set_eq_of_length_le hl]
  | some s =>
    have hi : i < ρ.length := (List.getElem?_eq_some_iff.mp e).1
    have es : ρ[i] = s := (List.getElem?_eq_some_iff.mp e).2
    have key : (match some s with | some (.fz x) => SV.fz x | _ => .un) = s := by
      cases s with
      | un => rfl
      | fz v => rfl
      | ow xs => unfold ownAt at ho; rw [e] at ho; cases ho
      | bx n => unfold ownAt at ho; rw [e] at ho; cases ho
    have back : ρ.set i s = ρ := by rw [← es]; exact List.set_getElem_self hi
    rcases h with rfl | ⟨y, rfl⟩
    · exact (congrArg (ρ'.set i) key).trans back
    · rw [List.set_set]
      exact (congrArg (ρ.set i) key).trans back
/-- a comprehension over i without effects -/
theorem lLc_pure {i : Nat} {gi : GI} {gt : GT} {ge : GE} {ρ : Env'} {xs : List PV} (p : PV → Bool) (f : PV → PV) (hi : gi ρ = .ret (xs, ρ)) (hz : xs.length ≤ sizeLine) (ho : ownAt ρ i = false)
    (hx : ∀ x ∈ xs, gt (ρ.set i (.fz x)) = .ret (p x, ρ.set i (.fz x)) ∧ (p x = true → ge (ρ.set i (.fz x)) = .ret (f x, ρ.set i (.fz x)))) : lLc [i] gi (gN i) gt ge ρ = .ret ((xs.filter p).map f, ρ) := by
  obtain ⟨ρ', a, b⟩ := lcLoop_pure (p := p) (f := f) xs ρ (.inl rfl) hx
  unfold lLc
  rw [hi]
  simp only [Wp.ret_bind]
  have fr : frozenAt ρ [i] = true := by unfold frozenAt; simp [ho]
  rw [if_pos ⟨hz, fr⟩, b]
  simp only [noEx_ret, Wp.ret_bind]
  rw [backE_one a ho]
theorem filter_none {α : Type} {p : α → Bool} : ∀ {xs : List α}, (∀ x ∈ xs, p x = false) → xs.filter p = []
  | [], _ => rfl
  | x :: xs, h => by rw [List.filter_cons, h x List.mem_cons_self]; exact filter_none fun y hy => h y (List.mem_cons_of_mem _ hy)
theorem filter_all {α : Type} {p : α → Bool} : ∀ {xs : List α}, (∀ x ∈ xs, p x = true) → xs.filter p = xs
  | [], _ => rfl
  | x :: xs, h => by rw [List.filter_cons, h x List.mem_cons_self]; exact congrArg (x :: ·) (filter_all fun y hy => h y (List.mem_cons_of_mem _ hy))
/-- .. as a map -/
theorem lLc_map {i : Nat} {gi : GI} {ge : GE} {ρ : Env'} {xs : List PV} (f : PV → PV) (hi : gi ρ = .ret (xs, ρ)) (hz : xs.length ≤ sizeLine) (ho : ownAt ρ i = false)
    (hx : ∀ x ∈ xs, ge (ρ.set i (.fz x)) = .ret (f x, ρ.set i (.fz x))) : lLc [i] gi (gN i) gYes ge ρ = .ret (xs.map f, ρ) := by
  have q := lLc_pure (gt := gYes) (ge := ge) (fun _ => true) f hi hz ho fun x hm => ⟨rfl, fun _ => hx x hm⟩
  rw [q, filter_all fun _ _ => rfl]

/-! ### the law's comparison, the same in all laws -/
def bSame (m : GF) : GS := sSeq (sIf (gOr (gBl (eOp2 pIs (eVar 1) (eC .non))) (gVal (eOp1 (pIsi "bool") (eVar 1)))) (sRet (eIf (gBl (eOp2 pIs (eVar 1) (eC .non))) (eOp2 pIs (eVar 0) (eC .non)) (eAnd (eOp1 (pIsi "bool") (eVar 0)) (eOp2 pEq (eOp2 pIs (eVar 0) (eC (.bl true))) (eOp2 pIs (eVar 1) (eC (.bl true))))))) (sNil)) (sSeq (sIf (gVal (eOp1 (pIsi "int") (eVar 1))) (sRet (eAnd (eOp1 (pIsi "int") (eVar 0)) (eAnd (eNot (eOp1 (pIsi "bool") (eVar 0))) (eOp2 pEq (eOp2 pSub (eOp1 pInt (eVar 0)) (eVar 1)) (eC (.int 0)))))) (sNil)) (sSeq (sIf (gVal (eOp1 (pIsi "str") (eVar 1))) (sRet (eAnd (eOp1 (pIsi "str") (eVar 0)) (eAnd (eOp2 pEq (eOp1 pLen (eVar 0)) (eOp1 pLen (eVar 1))) (eOp2 pEq (eLst (lLc [2] (iRng (eOp1 pLen (eVar 1))) (gN 2) (gBl (eOp2 pNe (eSl pSl (eVar 0) (oSome (eVar 2)) (oSome (eOp2 pAdd (eVar 2) (eC (.int 1))))) (eOp2 pIx (eVar 1) (eVar 2)))) (eVar 2))) (eLst (lDisp (aNil))))))) (sNil)) (sSeq (sIf (gOr (gBl (eOp2 pNe (eOp1 (pIsi "list") (eVar 0)) (eOp1 (pIsi "list") (eVar 1)))) (gBl (eOp2 pNe (eOp1 (pIsi "tuple") (eVar 0)) (eOp1 (pIsi "tuple") (eVar 1))))) (sRet (eC (.bl false))) (sNil)) (sRet (eAnd (eOp2 pEq (eOp1 pLen (eVar 0)) (eOp1 pLen (eVar 1))) (eOp2 pEq (eLst (lLc [2] (iRng (eOp1 pLen (eVar 1))) (gN 2) (gNot (gVal (eCall m (aCons (eOp2 pIx (eVar 0) (eVar 2)) (aCons (eOp2 pIx (eVar 1) (eVar 2)) (aNil)))))) (eVar 2))) (eLst (lDisp (aNil)))))))))
def mSame : Nat → GF
  | 0 => fNo
  | n + 1 => fnV 3 noPin (bSame (mSame n))
/-- both are the same tree, tags apart -/
inductive Sm : Nat → PV → PV → Prop
  | non {n} : Sm (n + 1) .non .non
  | bl {n} (b : Bool) : Sm (n + 1) (.bl b) (.bl b)
  | int {n} (i : Int) : Sm (n + 1) (.int i) (.int i)
  | str {n} (x : Str) (h : x.length ≤ sizeLine) : Sm (n + 1) (.str x) (.str x)
  | tup {n} {xs ys : List PV} (hl : xs.length = ys.length) (hz : xs.length ≤ sizeLine) (h : ∀ (i : Nat) (x y : PV), xs[i]? = some x → ys[i]? = some y → Sm n x y) : Sm (n + 1) (.tup xs) (.tup ys)
  | lst {n} {g g' : Option Addr} {xs ys : List PV} (hl : xs.length = ys.length) (hz : xs.length ≤ sizeLine) (h : ∀ (i : Nat) (x y : PV), xs[i]? = some x → ys[i]? = some y → Sm n x y) : Sm (n + 1) (.lst g xs) (.lst g' ys)
theorem eqB_nil : eqB (.lst none []) (.lst none []) = some true := by decide +kernel
@[simp] theorem pEq_nil : pEq (.lst none []) (.lst none []) = some (.bl true) := by unfold pEq; rw [eqB_nil]; rfl
theorem range_sz {n : Nat} (h : n ≤ sizeLine) : -4611686018427387904 ≤ (n : Int) ∧ (n : Int) < 4611686018427387904 := by
  rw [sizeLine_eq] at h
  omega
/-! ### texts by their signs -/
abbrev S (l : List Nat) : Str := ⟨l.toArray⟩
theorem S_of (z : Str) : z = S z.cps.toList := rfl
theorem S_len (l : List Nat) : (S l).length = l.length := by simp [S, Str.length]
theorem S_list (l : List Nat) : (S l).cps.toList = l := rfl
theorem S_inj {a b : List Nat} (h : S a = S b) : a = b := congrArg (fun z : Str => z.cps.toList) h
theorem S_append (a b : List Nat) : S a ++ S b = S (a ++ b) := by
  show (⟨a.toArray ++ b.toArray⟩ : Str) = ⟨(a ++ b).toArray⟩
  rw [List.append_toArray]
theorem slice_nat (l : List Nat) {a b : Nat} (hab : a ≤ b) (hb : b ≤ l.length) : Txt.slice (S l) (some (a : Int)) (some (b : Int)) = S ((l.drop a).take (b - a)) :=
  StrLaws.sliceText_nat (S l) hab (by rw [S_len]; exact hb)
theorem slice_to (l : List Nat) {b : Nat} (hb : b ≤ l.length) : Txt.slice (S l) none (some (b : Int)) = S (l.take b) := by
  have q := StrLaws.sliceText_to (x := S l) (j := (b : Int)) ⟨by omega, by rw [S_list]; omega⟩
  have e : ((b : Int) - 0).toNat = b := by omega
  rw [e] at q
  exact q
theorem slice_from (l : List Nat) {a : Nat} (ha : a ≤ l.length) : Txt.slice (S l) (some (a : Int)) none = S (l.drop a) := by
  have q := StrLaws.sliceText_from (x := S l) (i := (a : Int)) ⟨by omega, by rw [S_list]; omega⟩
  rw [S_list] at q
  have e1 : ((a : Int)).toNat = a := by omega
  have e2 : ((l.length : Int) - (a : Int)).toNat = l.length - a := by omega
  rw [e1, e2, List.take_of_length_le (by rw [List.length_drop]; omega)] at q
  exact q
theorem slice_neg1 (l : List Nat) (h : 1 ≤ l.length) : Txt.slice (S l) none (some (-1)) = S (l.take (l.length - 1)) := by
  have q := StrLaws.sliceText_neg_hi (S l) none (j := -1) (by omega) (by rw [S_len]; omega)
  have e : (-1 : Int) + ((S l).length : Int) = ((l.length - 1 : Nat) : Int) := by rw [S_len]; omega
  rw [e] at q
  exact q.trans (slice_to l (by omega))
theorem slice_one {z : Str} {k : Nat} {d : Nat} (h : z.cps.toList[k]? = some d) (hz : z.length ≤ sizeLine) : pSl (.str z) (some k) (some (k + 1 : Int)) = some (.str ⟨#[d]⟩) := by
  show (if z.length ≤ sizeLine then some (PV.str (Txt.slice z (some k) (some (k + 1 : Int)))) else none) = _
  rw [if_pos hz]
  have hk := (List.getElem?_eq_some_iff.mp h)
  obtain ⟨hk, hd⟩ := hk
  have q := slice_nat z.cps.toList (a := k) (b := k + 1) (by omega) (by omega)
  have e : ((k + 1 : Nat) : Int) = (k : Int) + 1 := by omega
  rw [e] at q
  have q' : Txt.slice z (some (k : Int)) (some ((k : Int) + 1)) = S ((z.cps.toList.drop k).take (k + 1 - k)) := q
  rw [q', show k + 1 - k = 1 from by omega, List.drop_eq_getElem_cons hk, hd]
  rfl
theorem iRange_len {n : Nat} (h : n ≤ sizeLine) : iRange (.int n) = some ((List.range n).map fun (k : Nat) => PV.int k) := by
  have r := range_sz h
  unfold iRange
  dsimp only
  rw [if_pos (by omega), Int.toNat_natCast]
theorem mem_range_int {n : Nat} {y : PV} (h : y ∈ (List.range n).map fun (k : Nat) => PV.int k) : ∃ k : Nat, k < n ∧ y = .int k := by
  obtain ⟨k, h1, rfl⟩ := List.mem_map.mp h
  exact ⟨k, List.mem_range.mp h1, rfl⟩
theorem atI_nat' {α : Type} {xs : List α} {k : Nat} {x : α} (h : xs[k]? = some x) : atI xs (k : Int) = some x := by
  have hk : k < xs.length := (List.getElem?_eq_some_iff.mp h).1
  unfold atI ixN
  rw [if_pos (by omega), if_pos (by omega)]
  simpa using h
theorem atI_opt {α : Type} (xs : List α) (k : Nat) : atI xs (k : Int) = xs[k]? := by
  cases h : xs[k]? with
  | some x => exact atI_nat' h
  | none =>
    have hk : xs.length ≤ k := by rwa [List.getElem?_eq_none_iff] at h
    unfold atI ixN
    rw [if_pos (by omega), if_neg (by omega)]
    rfl
theorem same_seq {m : GF} {i : Nat} {xs ys : List PV} {a b : PV} (hl : xs.length = ys.length) (hz : xs.length ≤ sizeLine) (ha : ∀ k : Nat, pIx a (.int k) = xs[k]?) (hb : ∀ k : Nat, pIx b (.int k) = ys[k]?) (hlen : pLen b = some (.int ys.length))
    (h : ∀ (i : Nat) (x y : PV), xs[i]? = some x → ys[i]? = some y → m [.fz x, .fz y] = .ret (.bl true, [.un, .un])) :
    lLc [2] (iRng (eOp1 pLen (eVar 1))) (gN 2) (gNot (gVal (eCall m (aCons (eOp2 pIx (eVar 0) (eVar 2)) (aCons (eOp2 pIx (eVar 1) (eVar 2)) aNil))))) (eVar 2) [.fz a, .fz b, .un] = .ret ([], [.fz a, .fz b, .un]) := by
  have q := lLc_pure (i := 2) (ρ := [.fz a, .fz b, .un]) (gi := iRng (eOp1 pLen (eVar 1))) (gt := gNot (gVal (eCall m (aCons (eOp2 pIx (eVar 0) (eVar 2)) (aCons (eOp2 pIx (eVar 1) (eVar 2)) aNil))))) (ge := eVar 2)
    (xs := (List.range ys.length).map fun (k : Nat) => PV.int k) (fun _ => false) id (by simp [hlen, iRange_len (hl ▸ hz)]) (by simpa using hl ▸ hz) rfl (fun y hy => ⟨?_, fun z => nomatch z⟩)
  · rw [q, filter_none fun _ _ => rfl]
    rfl
  · obtain ⟨k, hk, rfl⟩ := mem_range_int hy
    have hkx : k < xs.length := by omega
    have e := h k xs[k] ys[k] (List.getElem?_eq_getElem hkx) (List.getElem?_eq_getElem hk)
    simp [ha, hb, List.getElem?_eq_getElem hkx, List.getElem?_eq_getElem hk, fzs, e, truth]
theorem same_ok : ∀ (n : Nat) (a b : PV), Sm n a b → mSame n [.fz a, .fz b] = .ret (.bl true, [.un, .un])
  | n + 1, _, _, .non => by
    show fnV 3 noPin _ _ = _
    rw [fnV_eq rfl]
    simp [bSame, pIs, outs, SV.own]
  | n + 1, _, _, .bl b => by
    show fnV 3 noPin _ _ = _
    rw [fnV_eq rfl]
    cases b <;> simp [bSame, pIs, pIsi, isT, tyN, truth, outs, SV.own, pEq, eqB]
  | n + 1, _, _, .int i => by
    show fnV 3 noPin _ _ = _
    rw [fnV_eq rfl]
    simp [bSame, pIs, pIsi, isT, tyN, truth, outs, SV.own, pEq, eqB, pInt, pSub]
  | n + 1, _, _, .str x h => by
    show fnV 3 noPin _ _ = _
    rw [fnV_eq rfl]
    have q := lLc_pure (i := 2) (ρ := [.fz (.str x), .fz (.str x), .un]) (gi := iRng (eOp1 pLen (eVar 1))) (gt := gBl (eOp2 pNe (eSl pSl (eVar 0) (oSome (eVar 2)) (oSome (eOp2 pAdd (eVar 2) (eC (.int 1))))) (eOp2 pIx (eVar 1) (eVar 2)))) (ge := eVar 2)
      (xs := (List.range x.length).map fun (k : Nat) => PV.int k) (fun _ => false) id (by simp [pLen, h, iRange_len h]) (by simpa using h) rfl (fun y hy => ⟨?_, fun z => nomatch z⟩)
    · rw [filter_none fun _ _ => rfl] at q
      have e1 : pEq (.int x.length) (.int x.length) = some (.bl true) := by simp [pEq, eqB]
      simp [bSame, pIs, pIsi, isT, tyN, truth, outs, SV.own, pLen, q, h, e1]
    · obtain ⟨k, hk, rfl⟩ := mem_range_int hy
      have hk' : k < x.cps.toList.length := by simpa [Str.length] using hk
      have e := List.getElem?_eq_getElem hk'
      have e1 := slice_one e h
      have e2 : pIx (.str x) (.int k) = some (.str ⟨#[x.cps.toList[k]]⟩) := by
        show (if x.length ≤ sizeLine then (atI x.cps.toList k).map fun k => PV.str ⟨#[k]⟩ else none) = _
        rw [if_pos h, atI_nat' e]
        rfl
      simp [pAdd, e1, e2, pNe, eqB]
  | n + 1, _, _, @Sm.tup _ xs ys hl hz h => by
    show fnV 3 noPin _ _ = _
    rw [fnV_eq rfl]
    have q := same_seq (m := mSame n) (i := 0) (a := .tup xs) (b := .tup ys) hl hz (fun k => ?_) (fun k => ?_) rfl (fun i x y h1 h2 => same_ok n x y (h i x y h1 h2))
    · have e1 : pEq (.int ys.length) (.int ys.length) = some (.bl true) := by simp [pEq, eqB]
      have e2 : pNe (.bl false) (.bl false) = some (.bl false) := by simp [pNe, eqB]
      have e3 : pNe (.bl true) (.bl true) = some (.bl false) := by simp [pNe, eqB]
      simp [bSame, pIs, pIsi, isT, tyN, truth, outs, SV.own, pLen, q, hl, e1, e2, e3]
    · exact atI_opt xs k
    · exact atI_opt ys k
  | n + 1, _, _, @Sm.lst _ g g' xs ys hl hz h => by
    show fnV 3 noPin _ _ = _
    rw [fnV_eq rfl]
    have q := same_seq (m := mSame n) (i := 0) (a := .lst g xs) (b := .lst g' ys) hl hz (fun k => ?_) (fun k => ?_) rfl (fun i x y h1 h2 => same_ok n x y (h i x y h1 h2))
    · have e1 : pEq (.int ys.length) (.int ys.length) = some (.bl true) := by simp [pEq, eqB]
      have e2 : pNe (.bl false) (.bl false) = some (.bl false) := by simp [pNe, eqB]
      have e3 : pNe (.bl true) (.bl true) = some (.bl false) := by simp [pNe, eqB]
      simp [bSame, pIs, pIsi, isT, tyN, truth, outs, SV.own, pLen, q, hl, e1, e2, e3]
    · exact atI_opt xs k
    · exact atI_opt ys k
/-- a list that has been handed over, seen again behind the change -/
theorem veryL_run (n k : Nat) (hk : k < sizeLine) : veryL (mSame (n + 1)) (VL0 k) = .ret (.bl true, VL0 k) := by
  have e := same_ok (n + 1) _ _ (.int (n := n) 7)
  have e1 : pEq (.int ((k : Int) + 1)) (.int ((k : Int) + 1)) = some (.bl true) := by simp [pEq, eqB]
  have e2 : atI (List.replicate k PV.any ++ [PV.int 7]) (-1) = some (.int 7) := by
    unfold atI ixN
    rw [if_neg (by omega), if_pos (by simp; omega)]
    have e3 : ((-1 : Int) + ((List.replicate k PV.any ++ [PV.int 7]).length : Int)).toNat = k := by
      rw [List.length_append, List.length_replicate, List.length_singleton]
      omega
    rw [e3]
    show (List.replicate k PV.any ++ [PV.int 7])[k]? = some (.int 7)
    rw [List.getElem?_append_right (by rw [List.length_replicate]; omega), List.length_replicate, Nat.sub_self]
    rfl
  simp [veryL, VL0, pIsi, isT, tyN, pLen, pNeg, pIx, fzs, e, e1, e2]
theorem veryD_run (n : Nat) : veryD (mSame (n + 1)) VD0 = .ret (.bl true, VD0) := by
  have e := same_ok (n + 1) _ _ (.int (n := n) 7)
  have e1 : pEq (.int 1) (.int 1) = some (.bl true) := by simp [pEq, eqB]
  have e2 : eDGet (eVar 0) (eC (.str "more")) VD0 = .ret (.int 7, VD0) := by
    simp [eDGet, VD0, keyP, VL.valP]
  simp [veryD, VD0] at e2 ⊢
  simp [pIsi, isT, tyN, pLen, e1, e2, fzs, e]
theorem very7_ok (n : Nat) : Very7 (mSame (n + 1)) := ⟨fun k K E hk h => by rw [veryL_run n k hk]; exact h, fun K E h => by rw [veryD_run n]; exact h⟩
end VL

set_option Elab.async false
set_option linter.all false
set_option maxRecDepth 100000
set_option maxHeartbeats 1000000
/-! VL, part 20: new lists with a tag from their birth; blocks with a mark of their own; changes of a node; texts with fields. -/
namespace VL
open PySem PySem.Spec PyProof.Rows L2

section
variable {c : Cn} {X : Cx} {W : WX} {pn : Nat → Bool} {a b e o : Expr} {rest : List Expr} {pos p apos : Pos} {ga gb : GE} {σ σ' : St} {ρ ρ' : Env'} {F H F' H' : Hp}
/-! ### born with a tag -/
def tagL (g : Option (List PV × Env')) : Option (List PV × Env') := g
def eLstT (gl : GL) : GE := fun ρ => (gl ρ).bind fun a => .all (fun _ : Addr => True) fun q => .ret (.lst (some q) a.1, a.2)
theorem noB {p : Addr} (er : ER c F H σ ρ) (h : H p = none) : ¬ c.B p := fun b => by
  obtain ⟨o, e⟩ := er.mrk p b
  rw [h] at e
  cases e
theorem ve_lstT {gl : GL} (h : PE X e (tL c W gl)) : PE X e (tE c W (eLstT gl)) := imp_PE h fun σ H Q ⟨ρ, F, er, z⟩ =>
  ⟨ρ, F, er, (gl ρ).mono (fun r (q : ∀ k : Addr, True → OkE c σ ρ F H Q (.lst (some k) r.1, r.2)) p vs F' H' st hn hF hH no rep => by
    have f := freeze_grow st.2.sub hF hH
    refine q p trivial (.ref p) (upd F' p (.lst vs)) H' ⟨⟨st.1.ff.trans f.1, fun b o h n => ?_, st.1.th, st.1.ow⟩, freeze_er st.2 hF hH no⟩ (.lst upd_same (rep.mono f.1) (fun k z => by cases z; exact ⟨rfl, noB er hn⟩))
    obtain ⟨h1, h2⟩ := st.1.hh b o h n
    exact ⟨h1, fun z => by rw [upd_ne (ne_of_none h hn)]; exact h2 z⟩) (fun _ q => q) z⟩
def eDicT : GE := fun ρ => .all (fun _ : Addr => True) fun q => .ret (.dic (some q) [], ρ)
theorem ve_dicT {dpos : Pos} : PE X (.Dict [] [] dpos) (tE c W eDicT) := imp_PE pe_dnewK fun σ H Q ⟨ρ, F, er, z⟩ p hp => by
  have g := upd_grow (o := .dK []) er.sub hp
  exact (z p trivial) (.ref p) _ _ (g.stpE er) (.dic upd_same .nil (fun k z => by cases z; exact ⟨rfl, noB er hp⟩))
/-- a + b, new lists -/
def lAdd : PV → PV → Option (List PV)
  | .lst _ xs, .lst _ ys => if xs.length + ys.length ≤ sizeLine then some (xs ++ ys) else none
  | _, _ => none
theorem vl_add (ha : PE X a (tE c W ga)) (hb : PE X b (tE c W gb)) : PE X (.BinOp a .Add b pos) (tL c W (lOp2 lAdd ga gb)) :=
  imp_PE (pe_op op_cat ha hb) fun σ H Q ⟨ρ, F, er, z⟩ => tE_bind er z fun v ρ1 w F1 H1 st rep h1 => tE_bind st.2 h1 fun u ρ2 y F2 H2 st2 rep2 h2 => by
    have st12 := st.trans st2
    dsimp only at h2
    unfold lAdd at h2
    split at h2
    · rename_i g1 xs g2 ys
      cases rep with
      | @lst l vs _ _ hF r t =>
        cases rep2 with
        | @lst l2 ws _ _ hF2 r2 t2 =>
          by_cases hz : xs.length + ys.length ≤ sizeLine
          · rw [if_pos hz] at h2
            refine ⟨l, l2, vs, ws, rfl, rfl, st2.2.sub _ _ (st2.1.ff _ _ hF), st2.2.sub _ _ hF2, by rw [r.length, r2.length]; exact hz, fun q hq => ?_⟩
            exact laidL st12 h2 hq ((r.mono st2.1.ff).append r2)
          · rw [if_neg hz] at h2
            exact h2.elim
    · exact h2.elim

/-! ### a block with its own mark -/
/-- behind a change: what stood before and was not written, and the boxes -/
def mgS (s t : SV) : SV := match s with
  | .fz v => .fz v
  | .bx _ => (match t with | .bx n => .bx n | _ => .un)
  | _ => .un
def mgE : List SV → List SV → Nat → List Nat → List SV
  | [], _, _, _ => []
  | s :: ss, ts, i, is => (if is.contains i = true then .un else mgS s (ts.headD .un)) :: mgE ss ts.tail (i + 1) is
theorem mgE_len : ∀ (ss ts : List SV) (i : Nat) (is : List Nat), (mgE ss ts i is).length = ss.length
  | [], _, _, _ => rfl
  | s :: ss, ts, i, is => by simp only [mgE, List.length_cons, mgE_len ss]
theorem mgE_get : ∀ {ss ts : List SV} {i : Nat} {is : List Nat} {j : Nat} {s : SV}, (mgE ss ts i is)[j]? = some s → s = .un ∨ (is.contains (i + j) = false ∧ ∃ u, ss[j]? = some u ∧ s = mgS u ((ts[j]?).getD .un))
  | [], _, _, _, j, s, h => by simp [mgE] at h
  | a :: ss, ts, i, is, 0, s, h => by
    simp only [mgE, List.getElem?_cons_zero, Option.some.injEq] at h
    by_cases e : is.contains i = true
    · rw [if_pos e] at h; exact .inl h.symm
    · rw [if_neg e] at h
      refine .inr ⟨by simpa using e, a, rfl, ?_⟩
      rw [← h]
      cases ts <;> rfl
  | a :: ss, ts, i, is, j + 1, s, h => by
    simp only [mgE, List.getElem?_cons_succ] at h
    rcases mgE_get h with e | ⟨e, u, h1, h2⟩
    · exact .inl e
    · refine .inr ⟨by rw [← e]; congr 1; omega, u, h1, ?_⟩
      rw [h2]
      cases ts with
      | nil => simp
      | cons t ts => simp
theorem mgS_fz {s t : SV} {v : PV} (h : mgS s t = .fz v) : s = .fz v := by
  cases s with
  | fz u => exact h
  | bx n => cases t <;> cases h
  | _ => cases h
theorem mgS_bx {s t : SV} {n : Nat} (h : mgS s t = .bx n) : (∃ m, s = .bx m) ∧ t = .bx n := by
  cases s with
  | bx m => cases t with
    | bx k => exact ⟨⟨m, rfl⟩, h⟩
    | _ => cases h
  | _ => cases h
theorem mgS_ow {s t : SV} {xs : List PV} : mgS s t ≠ .ow xs := by
  intro h
  cases s with
  | bx m => cases t <;> cases h
  | _ => cases h
def sFrame (is : List Nat) (g : GS) : GS := fun ρ => (noE (g (ρ.map SV.er))).bind fun o => match o with
  | .nx ρ' => .ret (.nx (ρ'.map SV.er))
  | .ct ρ' => .ret (.ct (ρ'.map SV.er))
  | .bk ρ' => .ret (.bk (ρ'.map SV.er))
  | .rt v ρ' => .ret (.rt v.er (ρ'.map SV.er))
  | .th none ρ' => .ret (.nx (mgE ρ ρ' 0 is))
  | .th (some k) ρ' => .ret (.rt (.bl k) (mgE ρ ρ' 0 is))
theorem vss_frame {body : List Stmt} {is : List Nat} {g : GS} (hpn : ∀ j, j ∈ is → pn j = false) (hb : ∀ B, PSs X body (tS (c.at B) (pnOf is) W g)) : PSs X body (tS c pn W (sFrame is g)) :=
  imp_PSs (pss_any hb) fun D σ H ⟨ρ, F, er, z⟩ => by
    have pnn : ∀ i, pn i = true → pnOf is i = true := fun i h => by
      unfold pnOf
      cases e : is.contains i with
      | false => rfl
      | true => rw [hpn i (by simpa using e)] at h; cases h
    have er' : ER (c.at fun a => H a ≠ none) F H σ (ρ.map SV.er) := er.er fun p b => by
      cases e : H p with
      | none => exact absurd e b
      | some o => exact ⟨o, rfl⟩
    have out : ∀ {σ' ρ' F' H'}, StpS (c.at fun a => H a ≠ none) (pnOf is) σ (ρ.map SV.er) F H σ' ρ' F' H' → StpS c pn σ ρ F H σ' (ρ'.map SV.er) F' H' := fun {σ' ρ' F' H'} s =>
      ⟨⟨s.1.ff, fun p o h n => s.1.hh p o h fun z => n (own_er z), s.1.th, fun p h => (s.1.ow p (own_er h)).imp own_er id⟩, (by have q := s.2.1.er (B := c.B) (fun p b => (er.mrk p b).elim fun o h => s.1.th p o h); exact q), fun i h => s.2.2.1 i (pnn i h), s.2.2.2⟩
    have outT : ∀ {σ' ρ' H'}, Thw (c.at fun a => H a ≠ none) (pnOf is) σ (ρ.map SV.er) H σ' ρ' H' → StpS c pn σ ρ F H σ' (mgE ρ ρ' 0 is) F H' := fun {σ' ρ' H'} t => by
      obtain ⟨F9, er9⟩ := t.er
      have nO : ∀ p o, F p = some o → ¬ Own σ (ρ.map SV.er) p := fun p o h z => by
        rw [(Own.tracked er (own_er z)).1] at h
        cases h
      have hk : ∀ p o, H p = some o → ¬ Own σ (ρ.map SV.er) p → H' p = some o := fun p o h n => t.hh p o h n (by show H p ≠ none; rw [h]; exact fun z => nomatch z)
      have getB : ∀ {j n}, (mgE ρ ρ' 0 is)[j]? = some (.bx n) → ρ'[j]? = some (.bx n) ∧ j ∉ is := fun {j n} h => by
        rcases mgE_get h with z | ⟨e, u, h1, h2⟩
        · cases z
        · obtain ⟨_, h4⟩ := mgS_bx h2.symm
          refine ⟨?_, by simpa using e⟩
          cases q : ρ'[j]? with
          | none => rw [q] at h4; cases h4
          | some y => rw [q] at h4; exact congrArg some h4
      have own' : ∀ p, Own σ' (mgE ρ ρ' 0 is) p → Own σ' ρ' p := fun p ⟨j, s, h1, h2, h3⟩ => by
        cases s with
        | bx n => exact ⟨j, _, h1, (getB h2).1, rfl⟩
        | ow xs =>
          rcases mgE_get h2 with z | ⟨_, u, _, z⟩
          · cases z
          · exact absurd z.symm mgS_ow
        | _ => cases h3
      refine ⟨⟨Same.refl F, fun p o h n => ⟨hk p o h fun z => n (own_er z), fun z => z⟩, t.th, fun p h => (t.ow p (own' p h)).imp own_er id⟩, ⟨fun p o h => hk p o (er.sub p o h) (nO p o h), ?_, fun j o s h1 h2 => ?_, fun j k s u p h1 h2 h3 h4 h5 h6 => ?_, fun p b => (er.mrk p b).elim fun o h => t.th p o h⟩, fun i h => t.pn i (pnn i h), t.len⟩
      · rw [mgE_len, ← er.len]; exact t.len
      · cases s with
        | un => trivial
        | fz v =>
          rcases mgE_get h2 with z | ⟨e, u, h3, h4⟩
          · cases z
          · have h5 := mgS_fz h4.symm
            subst h5
            rw [Nat.zero_add] at e
            rw [t.pn j (by unfold pnOf; rw [e]; rfl)] at h1
            exact er.slot j o _ h1 h3
        | ow xs =>
          rcases mgE_get h2 with z | ⟨_, u, _, z⟩
          · cases z
          · exact absurd z.symm mgS_ow
        | bx n =>
          obtain ⟨g1, g2⟩ := getB h2
          obtain ⟨p, us, e, _, hq, r⟩ := er9.slot j o _ h1 g1
          subst e
          refine ⟨p, us, rfl, ?_, hq, r⟩
          rcases t.ow p ⟨j, _, h1, g1, rfl⟩ with z | z
          · exact (Own.tracked er (own_er z)).1
          · exact er.sub.free z
      · have bx : ∀ {j : Nat} {s : SV}, (mgE ρ ρ' 0 is)[j]? = some s → s.own = true → ∃ n, s = SV.bx n := fun {j s} h o => by
          cases s with
          | bx n => exact ⟨n, rfl⟩
          | ow xs =>
            rcases mgE_get h with z | ⟨_, u, _, z⟩
            · cases z
            · exact absurd z.symm mgS_ow
          | _ => cases o
        obtain ⟨n, rfl⟩ := bx h3 h5
        obtain ⟨m, rfl⟩ := bx h4 h6
        exact er9.dis j k _ _ p h1 h2 (getB h3).1 (getB h4).1 rfl rfl
    refine ⟨_, _, F, er', (g _).mono (fun o q => ?_) (fun _ q => q.elim) z⟩
    cases o with
    | nx ρ' => exact fun σ' F' H' s => q σ' F' H' (out s)
    | ct ρ' => exact fun σ' F' H' s => q σ' F' H' (out s)
    | bk ρ' => exact fun σ' F' H' s => q σ' F' H' (out s)
    | rt v ρ' => exact fun w σ' F' H' s rp => q w σ' F' H' (out s) (rp.er (B := c.B))
    | th k ρ' => cases k with
      | none => exact fun σ' H' t => ⟨fun _ => q σ' F H' (outT t), fun b z => nomatch z⟩
      | some k => exact fun σ' H' t => ⟨(fun z => nomatch z), fun b' z => by cases z; exact q (.bl k) σ' F H' (outT t) (.bl k)⟩

/-! ### x[..].append(y) of a tagged node -/
def thawX : SV → SV
  | .bx n => .bx n
  | .fz v => if flat v = true then .fz v else .un
  | _ => .un
theorem thawX_own {t : SV} (h : (thawX t).own = true) : t.own = true := by
  cases t with
  | bx n => rfl
  | un => cases h
  | ow xs => cases h
  | fz v =>
    unfold thawX at h
    dsimp only at h
    by_cases e : flat v = true
    · rw [if_pos e] at h; cases h
    · rw [if_neg e] at h; cases h
theorem thw_ofX {q : Addr} {vs : List V} {ob : HO} (er : ER c F H σ ρ) (nB : ¬ c.B q) (hq : F q = some (.lst vs)) : Thw c pn σ ρ H σ (ρ.map thawX) (upd H q ob) where
  hh := fun p o h n b => by rw [upd_ne (fun e => nB (by rw [← e]; exact b))]; exact h
  th := fun p o h => by
    by_cases e : p = q
    · subst e; exact ⟨_, upd_same⟩
    · exact ⟨o, by rw [upd_ne e]; exact h⟩
  ow := fun p h => .inl (own_map (fun _ => thawX_own) h)
  er := by
    have hq' : ∀ us, F q ≠ some (.tup us) := fun us z => by rw [hq] at z; cases z
    refine ⟨upd F q ob, er.map (fun p o h => ?_) (fun i o s h1 h2 h => ?_) (fun _ => thawX_own) fun p b => ?_⟩
    · by_cases e : p = q
      · subst e; rw [upd_same] at h ⊢; exact h
      · rw [upd_ne e] at h ⊢; exact er.sub p o h
    · cases s with
      | un => trivial
      | ow xs => trivial
      | bx n =>
        obtain ⟨p, us, e, f, hp, r⟩ := h
        subst e
        have ne : p ≠ q := fun z => by subst z; rw [f] at hq; cases hq
        exact ⟨p, us, rfl, by rw [upd_ne ne]; exact f, by rw [upd_ne ne]; exact hp, r⟩
      | fz v =>
        obtain ⟨w, rfl, r⟩ := h
        unfold thawX
        dsimp only
        split
        · exact ⟨w, rfl, flat_rep hq' r ‹_›⟩
        · trivial
    · by_cases e : p = q
      · subst e; exact ⟨_, upd_same⟩
      · obtain ⟨o, h⟩ := er.mrk p b; exact ⟨o, by rw [upd_ne e]; exact h⟩
  pn := fun _ _ => rfl
  len := rfl
def sAppT (g h : GE) : GS := fun ρ => (g ρ).bind fun a => match a.1 with
  | .lst (some _) xs => if xs.length < sizeLine then (h a.2).bind fun b => .ret (.th none (b.2.map thawX)) else .stuck
  | _ => .stuck
theorem vs_appT (ho : PE X o (tE c W ga)) (ha : PE X a (tE c W gb)) (hbase : attributeBase o "append" X.env (eval o X.env) = eval o X.env := by rfl)
    (hfew : ((backTo p (starEach [a] X.env)).all (fun x => !x.1) && (backToKw p (keywordEach [] X.env)).all (fun x => x.1.isSome) && decide ([a].length + ([] : List Keyword).length + (if ([] : List Keyword).isEmpty then 0 else 1) < 30)) = true := by rfl)
    (hline : (apos.endLine == p.line) = true := by rfl) (hs : starEach [a] X.env = (false, eval a X.env) :: starEach [] X.env := by rfl) (hsw : swapsWith (.Call (.Attribute o "append" apos) [a] [] p) none pos.line X.env = pure false := by rfl) :
    PS X (.Expr (.Call (.Attribute o "append" apos) [a] [] p) pos) (tS c pn W (sAppT ga gb)) :=
  imp_PS (ps_expr (pe_bm PySem.F.plainAttrs_list PySem.F.slot_list_append PySem.F.type_list_append mt_append ho (pa_cons ha pa_nil hs) hbase hfew hline hs) hsw) fun D σ H ⟨ρ, F, er, z⟩ =>
    tE_bindS er z fun v ρ1 w F1 H1 st rep h1 => by
      dsimp only at h1
      split at h1
      · rename_i q xs
        split at h1
        · rename_i hz
          cases rep with
          | @lst l vs _ _ hF r t =>
            obtain ⟨rfl, nB⟩ := t q rfl
            have hl1 := st.2.sub _ _ hF
            refine ⟨.inl ⟨rfl, _, SqL.of hl1⟩, ?_⟩
            refine tE_bindS st.2 h1 fun u ρ2 y F2 H2 st2 rep2 h3 => ?_
            have hF2 := st2.1.ff _ _ hF
            have hl2 := st2.2.sub _ _ hF2
            exact ⟨q, vs, y, rfl, rfl, hl2, by rw [r.length]; exact hz, ((show OkS c pn σ ρ2 F2 H2 D (.th none (ρ2.map thawX)) from h3) σ _ (thw_ofX st2.2 nB hF2)).1 rfl⟩
        · exact h1.elim
      · exact h1.elim

/-! ### texts with fields -/
def pFmt : PV → Option PV
  | .str y => if y.length ≤ sizeLine then some (.str y) else none
  | .int i => if i.natAbs.log2 < 1920 then some (.str (toString i)) else none
  | _ => none
def eFmt (g : GE) : GE := fun ρ => (g ρ).bind fun a => lift (pFmt a.1) a.2
theorem ve_fmt (ha : PE X a (tE c W ga)) : PE X (.FormattedValue a (-1) none pos) (tE c W (eFmt ga)) :=
  imp_PE (pe_fmt ha) fun σ H Q ⟨ρ, F, er, z⟩ => tE_bind er z fun v ρ1 w F1 H1 st rep h1 => by
    dsimp only at h1
    unfold pFmt at h1
    split at h1
    · rename_i y
      cases rep
      by_cases hz : y.length ≤ sizeLine
      · rw [if_pos hz] at h1
        exact .inl ⟨y, rfl, hz, h1 (.str y) F1 H1 st (.str y)⟩
      · rw [if_neg hz] at h1; exact h1.elim
    · rename_i i
      cases rep
      by_cases hz : i.natAbs.log2 < 1920
      · rw [if_pos hz] at h1
        exact .inr ⟨i, rfl, hz, h1 _ F1 H1 st (.str _)⟩
      · rw [if_neg hz] at h1; exact h1.elim
    · exact h1.elim
def jsGo : List GE → Str → GE
  | [], acc => fun ρ => .ret (.str acc, ρ)
  | g :: gs, acc => fun ρ => (g ρ).bind fun a => match a.1 with
    | .str y => if (acc ++ y).length ≤ sizeLine then jsGo gs (acc ++ y) a.2 else .stuck
    | _ => .stuck
def eJs (gs : List GE) : GE := jsGo gs Str.empty
theorem js_run : ∀ (gs : List GE) (acc : Str) {σ : St} {ρ : Env'} {F H : Hp} {Q : VK}, ER c F H σ ρ → (jsGo gs acc ρ).run (OkE c σ ρ F H Q) (ErE c W σ ρ F H) → tJs (gs.map (tE c W)) acc σ H fun out H1 => Q (.str out) H1
  | [], acc, σ, ρ, F, H, Q, er, z => z (.str acc) F H (StpE.refl er) (.str acc)
  | g :: gs, acc, σ, ρ, F, H, Q, er, z => tE_bind er z fun v ρ1 w F1 H1 st rep h1 => by
    dsimp only at h1
    split at h1
    · rename_i y
      cases rep
      split at h1
      · rename_i hz
        exact ⟨y, rfl, hz, js_run gs (acc ++ y) st.2 ((jsGo gs (acc ++ y) ρ1).mono (fun r q => OkE.step st q) (fun _ q => q) h1)⟩
      · exact h1.elim
    · exact h1.elim
theorem ve_js {v1 v2 : Expr} {es : List Expr} {gs : List GE} (h : PJ X (v1 :: v2 :: es) (gs.map (tE c W))) : PE X (.JoinedStr (v1 :: v2 :: es) pos) (tE c W (eJs gs)) :=
  imp_PE (pe_joined h) fun σ H Q ⟨ρ, F, er, z⟩ => js_run gs Str.empty er z
theorem vj_nil : PJ X [] (([] : List GE).map (tE c W)) := .nil
theorem vj_cons {es : List Expr} {gs : List GE} (ha : PE X a (tE c W ga)) (r : PJ X es (gs.map (tE c W))) : PJ X (a :: es) ((ga :: gs).map (tE c W)) := .cons ha r
@[simp] theorem c_eFmt {ρ : Env'} : eFmt ga ρ = (ga ρ).bind fun a => lift (pFmt a.1) a.2 := (rfl)
@[simp] theorem c_lOp2 {f : PV → PV → Option (List PV)} {ρ : Env'} : lOp2 f ga gb ρ = (ga ρ).bind fun a => (gb a.2).bind fun b => lift' (f a.1 b.1) b.2 := (rfl)
@[simp] theorem c_jsNil {acc : Str} {ρ : Env'} : jsGo [] acc ρ = .ret (.str acc, ρ) := (rfl)
@[simp] theorem c_jsCons {gs : List GE} {acc : Str} {ρ : Env'} : jsGo (ga :: gs) acc ρ = (ga ρ).bind fun a => match a.1 with
    | .str y => if (acc ++ y).length ≤ sizeLine then jsGo gs (acc ++ y) a.2 else .stuck
    | _ => .stuck := (rfl)
end
section
variable {c : Cn} {X : Cx} {W : WX} {pn : Nat → Bool}
variable {elt tg iter : Expr} {ifs : List Expr} {scope : Scope} {own : List (Str × Nat)} {is : List Nat} {pos spos py : Pos} {gi : GI} {g : TG} {f : GG} {gt : GT} {ge : GE} {i : Nat} {y : Str}
theorem tL_tag {gl : GL} {σ : St} {H : Hp} {Q : VK} (z : tE c W (eLstT gl) σ H Q) : tL c W gl σ H Q := by
  obtain ⟨ρ, F, er, z⟩ := z
  exact ⟨ρ, F, er, (gl ρ).mono (fun r (q : ∀ k : Addr, True → OkE c σ ρ F H Q (.lst (some k) r.1, r.2)) p vs F' H' st hn hF hH no rep => by
    have f := freeze_grow st.2.sub hF hH
    refine q p trivial (.ref p) (upd F' p (.lst vs)) H' ⟨⟨st.1.ff.trans f.1, fun b o h n => ?_, st.1.th, st.1.ow⟩, freeze_er st.2 hF hH no⟩ (.lst upd_same (rep.mono f.1) (fun k z => by cases z; exact ⟨rfl, noB er hn⟩))
    obtain ⟨h1, h2⟩ := st.1.hh b o h n
    exact ⟨h1, fun z => by rw [upd_ne (ne_of_none h hn)]; exact h2 z⟩) (fun _ q => q) z⟩
theorem vs_setLcT (hc : X.calm = true) (hN : X.N.Nodup) (hy : X.N[i]? = some y) (hyl : X.env.scope.names.lookup y = some .local) (hp : pn i = false)
    (hsw : swapsWith (.ListComp elt [⟨tg, iter, ifs, 0⟩] scope pos) (some (.Name y py)) spos.line X.env = pure true) (hi : PI X tg iter (tI c W gi)) (ok : BlkOk X.N X.env.scope scope own)
    (hg : ∀ (s : Shared) (H : Hp) (C : Addr) (cl : List (Str × Addr)) (fp : List Addr), PG (X.blk s H scope (compEnvC scope cl C X.env) fp) tg g) (hgf : TgOk c is g f)
    (ht : ∀ (s : Shared) (H : Hp) (C : Addr) (cl : List (Str × Addr)) (fp : List Addr), PTs (X.blk s H scope (compEnvC scope cl C X.env) fp) ifs (tT c W0 gt))
    (he : ∀ (s : Shared) (H : Hp) (C : Addr) (cl : List (Str × Addr)) (fp : List Addr), PE (X.blk s H scope (compEnvC scope cl C X.env) fp) elt (tE c W0 ge)) (his : own.map (·.2) = is := by rfl) (hs : ∀ x, foldedSetIterable iter X.env x = pure x := by intro _; rfl) :
    PS X (.Assign [.Name y py] (.ListComp elt [⟨tg, iter, ifs, 0⟩] scope pos) spos) (tS c pn W (sSet i (eLstT (lLc is gi f gt ge)))) := by
  subst his
  exact imp_PS (ps_setLc hc hN hy hyl hsw hi ok hg ht he hs) fun D σ H ⟨ρ, F, er, z⟩ => lc_read hgf (tL_tag (tE_bindS er z fun v ρ1 w F1 H1 st rep h1 => h1 _ F1 H1
    ⟨(Stp.refl F1 H1 _).less fun p q => own_set q, st.2.set rep, (fun j hj => List.getElem?_set_ne (fun q => by subst q; rw [hp] at hj; cases hj)), List.length_set⟩))
end
end VL

set_option Elab.async false
set_option linter.all false
set_option maxRecDepth 100000
set_option maxHeartbeats 1000000
/-! VL, part 21: plain help. -/
namespace VL
open PySem PySem.Spec PyProof.Rows L2
theorem log2_lt' {n m : Nat} (h : n < 2 ^ m) (hm : 0 < m) : n.log2 < m := by
  by_cases h0 : n = 0
  · subst h0; rw [show Nat.log2 0 = 0 from by decide]; exact hm
  · exact (Nat.log2_lt h0).mpr h
theorem mul_ok {i j : Int} (hi : i.natAbs < 2 ^ 64) (hj : j.natAbs < 2 ^ 64) : pMul (.int i) (.int j) = some (.int (i * j)) := by
  have h1 := log2_lt' hi (by decide)
  have h2 := log2_lt' hj (by decide)
  unfold pMul
  dsimp only
  rw [if_pos (by omega)]
theorem pow_ok {i : Int} {j : Nat} (hj : j ≤ 1000000) (hi : i.natAbs < 18446744073709551616) : pPow (.int i) (.int j) = some (.int (i ^ j)) := by
  unfold pPow
  dsimp only
  rw [if_pos ⟨by omega, by omega, by rw [show (2 : Nat) ^ 64 = 18446744073709551616 from by decide]; exact hi⟩, Int.toNat_natCast]
theorem mod_ok {i j : Int} (hj : 0 < j) : pMod (.int i) (.int j) = some (.int (i % j)) := by
  unfold pMod; dsimp only; rw [if_pos hj]
theorem fdiv_ok {i j : Int} (hj : 0 < j) (h : j < 1073741824) : pFdiv (.int i) (.int j) = some (.int (i / j)) := by
  unfold pFdiv; dsimp only; rw [if_pos ⟨hj, h⟩]
theorem pEq_int (a b : Int) : pEq (.int a) (.int b) = some (.bl (decide (a = b))) := by simp [pEq, eqB]
theorem pNe_int (a b : Int) : pNe (.int a) (.int b) = some (.bl (!decide (a = b))) := by simp [pNe, eqB]
theorem blsOf_map (bs : List Bool) : blsOf (bs.map PV.bl) = some bs := by
  induction bs with
  | nil => rfl
  | cons b bs ih => show (blsOf (bs.map PV.bl)).map (fun ns => b :: ns) = _; rw [ih]; rfl
theorem pAll_bl (xs : List PV) (f : PV → Bool) : pAll (.lst none (xs.map fun x => PV.bl (f x))) = some (.bl (xs.all f)) := by
  have e : (xs.map fun x => PV.bl (f x)) = (xs.map f).map PV.bl := by rw [List.map_map]; rfl
  rw [e]
  show (blsOf _).map _ = _
  rw [blsOf_map]
  simp [List.all_map]
theorem S_nil : (PySem.Str.ofString "") = S [] := by decide +kernel
theorem S_n : (PySem.Str.ofString "\n") = S [10] := by decide +kernel
theorem join_S (ls : List (List Nat)) : Txt.join (S []) (ls.map S) = S ls.flatten := by
  show Builtin.Str.glued _ _ = _
  rw [StrLaws.glued_eq_join]
  induction ls with
  | nil => rfl
  | cons l ls ih =>
    cases ls with
    | nil => show S l = S (l ++ []); rw [List.append_nil]
    | cons l2 ls =>
      show S l ++ S [] ++ Str.join (S []) ((l2 :: ls).map S) = _
      rw [ih, S_append, S_append, List.append_nil]
      rfl
theorem strsOf_S (ls : List (List Nat)) : strsOf (ls.map fun l => PV.str (S l)) = some (ls.map S) := by
  induction ls with
  | nil => rfl
  | cons l ls ih => show (strsOf (ls.map fun l => PV.str (S l))).map (fun ns => S l :: ns) = _; rw [ih]; rfl
theorem sum_S (ls : List (List Nat)) : ((ls.map S).map (·.length)).sum = ls.flatten.length := by
  induction ls with
  | nil => rfl
  | cons l ls ih => simp only [List.map_cons, List.sum_cons, ih, List.flatten_cons, List.length_append, S_len]
theorem pJoin_S (ls : List (List Nat)) (h : ls.flatten.length ≤ 16777216) : pJoin (.str (S [])) (.lst none (ls.map fun l => PV.str (S l))) = some (.str (S ls.flatten)) := by
  show (strsOf _).bind _ = _
  rw [strsOf_S]
  simp only [Option.bind_some]
  rw [sum_S, if_pos (by rw [S_len]; simpa using h), join_S]
theorem pAdd_S (a b : List Nat) (h : a.length + b.length ≤ 16777216) : pAdd (.str (S a)) (.str (S b)) = some (.str (S (a ++ b))) := by
  have hz : (S a).length + (S b).length ≤ sizeLine := sl_le (by rw [S_len, S_len]; exact h)
  show (if (S a).length + (S b).length ≤ sizeLine then some (PV.str (S a ++ S b)) else none) = _
  rw [if_pos hz, S_append]
theorem str_inj {a b : List Nat} : (S a = S b) ↔ a = b := ⟨S_inj, fun h => by rw [h]⟩
theorem pNe_S (a b : List Nat) : pNe (.str (S a)) (.str (S b)) = some (.bl (!decide (a = b))) := by
  have : decide (S a = S b) = decide (a = b) := by simp only [str_inj]
  show some (PV.bl (!decide (S a = S b))) = _
  rw [this]
theorem pEq_S (a b : List Nat) : pEq (.str (S a)) (.str (S b)) = some (.bl (decide (a = b))) := by
  have : decide (S a = S b) = decide (a = b) := by simp only [str_inj]
  show some (PV.bl (decide (S a = S b))) = _
  rw [this]
theorem beqS (a b : List Nat) : (S a == S b) = decide (a = b) := by
  have : (S a == S b) = decide (S a = S b) := by by_cases h : S a = S b <;> simp [h]
  rw [this]
  simp only [str_inj]
theorem pvDs_strs : ∀ cs : List Nat, pvDs (cs.map fun c => PV.str (S [c])) = some (cs.map fun c => .str (S [c]))
  | [] => rfl
  | c :: cs => by
    show (pvD (.str (S [c]))).bind _ = _
    rw [pvDs_strs cs]
    rfl
theorem lay_strs : ∀ cs : List Nat, (∀ c ∈ cs, c < 128) → PyData.canLayAll0 (cs.map fun c => .str (S [c])) = true
  | [], _ => rfl
  | c :: cs, h => by
    show (PyData.canLay0 (.str (S [c])) && PyData.canLayAll0 (cs.map fun c => .str (S [c]))) = true
    rw [lay_strs cs fun x hx => h x (List.mem_cons_of_mem _ hx)]
    have := h c List.mem_cons_self
    simp [PyData.canLay0, PyData.strOk]
    omega
theorem dep_strs : ∀ cs : List Nat, PyData.depthAll (cs.map fun c => .str (S [c])) = 0
  | [] => rfl
  | c :: cs => by
    show max (PyData.depth (.str (S [c]))) (PyData.depthAll (cs.map fun c => .str (S [c]))) = 0
    rw [dep_strs cs]
    rfl
theorem eq_nil {g : Option Addr} {xs : List PV} {ds : List PyData} (h1 : pvDs xs = some ds) (h2 : PyData.canLayAll0 ds = true) (h3 : PyData.depthAll ds ≤ 63) : eqB (.lst g xs) (.lst none []) = some xs.isEmpty := by
  show eqD (.lst g xs) (.lst none []) = _
  have a : pvD (.lst g xs) = some (.list ds) := by simp [pvD, h1]
  have b : pvD (.lst none []) = some (.list []) := by simp [pvD, pvDs]
  unfold eqD
  rw [a, b]
  have c : SeqAt.shaped (.list ds) = true := by
    have e : (PyData.list ds).depth = PyData.depthAll ds + 1 := by simp [PyData.depth]
    have f : (PyData.list ds).canLay0 = true := by simp [PyData.canLay0, h2]
    unfold SeqAt.shaped
    rw [e, f, Bool.true_and]
    exact decide_eq_true (Nat.succ_le_succ h3)
  have d : SeqAt.shaped (.list []) = true := by decide +kernel
  dsimp only
  rw [if_pos ⟨c, d⟩]
  cases xs with
  | nil => simp only [pvDs] at h1; cases h1; rfl
  | cons x xs =>
    simp only [pvDs] at h1
    obtain ⟨e, _, h4⟩ := Option.bind_eq_some_iff.mp h1
    obtain ⟨es, _, rfl⟩ := Option.map_eq_some_iff.mp h4
    rfl
theorem eq_strs (cs : List Nat) (h : ∀ c ∈ cs, c < 128) : eqB (.lst none (cs.map fun c => PV.str (S [c]))) (.lst none []) = some (cs.isEmpty) := by
  rw [eq_nil (pvDs_strs cs) (lay_strs cs h) (by rw [dep_strs]; decide)]
  cases cs <;> rfl
theorem pvDs_ints : ∀ ns : List Int, pvDs (ns.map PV.int) = some (ns.map PyData.int)
  | [] => rfl
  | n :: ns => by
    show (pvD (.int n)).bind _ = _
    rw [pvDs_ints ns]
    rfl
theorem lay_ints : ∀ ns : List Int, PyData.canLayAll0 (ns.map PyData.int) = true ∧ PyData.depthAll (ns.map PyData.int) = 0
  | [] => ⟨rfl, rfl⟩
  | n :: ns => by
    obtain ⟨a, b⟩ := lay_ints ns
    constructor
    · show (PyData.canLay0 (.int n) && _) = true
      rw [a]; rfl
    · show max (PyData.depth (.int n)) _ = 0
      rw [b]; rfl
theorem eq_ints (ns : List Int) : eqB (.lst none (ns.map PV.int)) (.lst none []) = some ns.isEmpty := by
  rw [eq_nil (pvDs_ints ns) (lay_ints ns).1 (by rw [(lay_ints ns).2]; decide)]
  cases ns <;> rfl
theorem try_ret {ex : Nat → Nat → Option Bool} {hs : List Hd} {g : GS} {ρ : Env'} {o : Out} (h : g ρ = .ret o) : sTry ex hs g ρ = .ret o := by
  refine Wp.ext_run fun K E => ?_
  show (g ρ).run K _ ↔ K o
  rw [h]
  exact Iff.rfl
theorem try_raise {ex : Nat → Nat → Option Bool} {hs : List Hd} {g : GS} {ρ : Env'} {e : XE'} {v : PV} (h : g ρ = .raise e) (hp : pick ex e.1 hs = some (some v)) : sTry ex hs g ρ = .ret (.rt v e.2) := by
  refine Wp.ext_run fun K E => ?_
  show (g ρ).run K _ ↔ K _
  rw [h]
  show (match pick ex e.1 hs with | some (some v) => K (.rt v e.2) | some none => E e | none => False) ↔ K _
  rw [hp]
@[simp] theorem c_eCallK {m : GF} {π : List Nat} {ga : GA} {ρ : Env'} : eCallK m π ga ρ = (ga ρ).bind fun a => ((m (fzs (perm .non π a.1))).mapE fun e => (e.1, a.2)).bind fun r => .ret (r.1, a.2) := (rfl)
theorem perm1 (v : PV) : perm .non [0] [v] = [v] := rfl
@[simp] theorem all_bind {ι ε α β : Type} (p : ι → Prop) (f : ι → Wp ε α) (g : α → Wp ε β) : (Wp.all p f).bind g = Wp.all p fun i => (f i).bind g := (rfl)
@[simp] theorem all_run {ι ε α : Type} (p : ι → Prop) (f : ι → Wp ε α) (K : α → Prop) (E : ε → Prop) : (Wp.all p f).run K E = ∀ i, p i → (f i).run K E := (rfl)
@[simp] theorem all_mapE {ι ε ε' α : Type} (p : ι → Prop) (f : ι → Wp ε α) (g : ε → ε') : (Wp.all p f).mapE g = Wp.all p fun i => (f i).mapE g := (rfl)
theorem backE_gen {i : Nat} {ρ' ρ0 ρ1 : Env'} (h : ρ' = ρ1 ∨ ∃ y, ρ' = ρ1.set i (.fz y)) (h0 : ρ0[i]? = ρ1[i]?) (ho : ownAt ρ0 i = false) : backE ρ' ρ0 [i] = ρ1 := by
  have ho' : ownAt ρ1 i = false := by unfold ownAt at ho ⊢; rw [← h0]; exact ho
  have q := backE_one h ho'
  unfold backE backE at q ⊢
  rw [h0]
  exact q
theorem intsOf_map (ns : List Int) : intsOf (ns.map PV.int) = some ns := by
  induction ns with
  | nil => rfl
  | cons n ns ih => show (intsOf (ns.map PV.int)).map (fun ms => n :: ms) = _; rw [ih]; rfl
theorem told_len : (PySem.Str.ofString "told").length ≤ 16777216 := by decide +kernel
theorem sm_pair {n : Nat} {g g' : Option Addr} {v v' : PV} (h : Sm (n + 1) v v') : Sm (n + 2) (.lst g [.str "told", v]) (.lst g' [.str "told", v']) := by
  refine .lst rfl (sl_le (by simp)) fun i x y h1 h2 => ?_
  match i, h1, h2 with
  | 0, h1, h2 => cases h1; cases h2; exact .str _ (sl_le told_len)
  | 1, h1, h2 => cases h1; cases h2; exact h
  | i + 2, h1, h2 => cases h1
theorem sm_text {n : Nat} (l : List Nat) (h : l.length ≤ 1000000) : Sm (n + 1) (.str (S l)) (.str (S l)) := .str _ (sl_le (by rw [S_len]; omega))
theorem erL_len : ∀ xs : List PV, (erL xs).length = xs.length
  | [] => by simp [erL]
  | x :: xs => by simp [erL, erL_len xs]
end VL

set_option Elab.async false
set_option linter.all false
set_option maxRecDepth 100000
set_option maxHeartbeats 1000000
/-! VL, part 22: comprehensions and loops at large; signs and numbers of texts. -/
namespace VL
open PySem PySem.Spec PyProof.Rows L2
theorem lcLoop_gen {ii : List Nat} {f : GG} {gt : GT} {ge : GE} (C : Env' → Prop) (p : PV → Bool) (h : PV → PV) : ∀ (xs : List PV) (ρ1 : Env'), C ρ1 →
    (∀ x ∈ xs, ∀ ρ1, C ρ1 → ∃ ρ2, f x (wipeE ρ1 ii) = some ρ2 ∧ C ρ2 ∧ gt ρ2 = .ret (p x, ρ2) ∧ (p x = true → ge ρ2 = .ret (h x, ρ2))) →
    ∃ ρ', C ρ' ∧ lcLoop ii f gt ge xs ρ1 = .ret ((xs.filter p).map h, ρ')
  | [], ρ1, hC, _ => ⟨ρ1, hC, rfl⟩
  | x :: xs, ρ1, hC, hs => by
    obtain ⟨ρ2, e1, c2, e2, e3⟩ := hs x List.mem_cons_self ρ1 hC
    obtain ⟨ρ', a, b⟩ := lcLoop_gen C p h xs ρ2 c2 fun y hy => hs y (List.mem_cons_of_mem _ hy)
    refine ⟨ρ', a, ?_⟩
    unfold lcLoop
    rw [e1]
    dsimp only
    rw [e2]
    cases hp : p x with
    | true => simp only [Wp.ret_bind, if_true, e3 hp, b, List.filter_cons, hp, List.map_cons]
    | false => simp only [Wp.ret_bind, Bool.false_eq_true, if_false, b, List.filter_cons, hp]
/-- a comprehension without effects, whatever its target -/
theorem lLc_gen {ii : List Nat} {gi : GI} {f : GG} {gt : GT} {ge : GE} {ρ : Env'} {xs : List PV} (C : Env' → Prop) (p : PV → Bool) (h : PV → PV) (hi : gi ρ = .ret (xs, ρ)) (hz : xs.length ≤ sizeLine) (fr : frozenAt ρ ii = true) (hC : C ρ)
    (hs : ∀ x ∈ xs, ∀ ρ1, C ρ1 → ∃ ρ2, f x (wipeE ρ1 ii) = some ρ2 ∧ C ρ2 ∧ gt ρ2 = .ret (p x, ρ2) ∧ (p x = true → ge ρ2 = .ret (h x, ρ2))) (hb : ∀ ρ1, C ρ1 → backE ρ1 ρ ii = ρ) :
    lLc ii gi f gt ge ρ = .ret ((xs.filter p).map h, ρ) := by
  obtain ⟨ρ', a, b⟩ := lcLoop_gen (gt := gt) (ge := ge) C p h xs ρ hC hs
  unfold lLc
  rw [hi]
  simp only [Wp.ret_bind]
  rw [if_pos ⟨hz, fr⟩, b]
  simp only [noEx_ret, Wp.ret_bind]
  rw [hb _ a]
theorem lcLoop_run {ii : List Nat} {f : GG} {gt : GT} {ge : GE} {E : XE' → Prop} (C : Nat → Env' → Prop) (P : PV → Prop) (M : Nat) : ∀ (xs : List PV) (n : Nat) (ρ1 : Env') {K : List PV × Env' → Prop}, n + xs.length ≤ M → C n ρ1 →
    (∀ x ∈ xs, ∀ m ρ1, m < M → C m ρ1 → ∃ ρ2, f x (wipeE ρ1 ii) = some ρ2 ∧ gt ρ2 = .ret (true, ρ2) ∧ ∀ {K : PV × Env' → Prop} {E : XE' → Prop}, (∀ y ρ3, P y → C (m + 1) ρ3 → K (y, ρ3)) → (ge ρ2).run K E) →
    (∀ ys ρ', ys.length = xs.length → (∀ y ∈ ys, P y) → C (n + xs.length) ρ' → K (ys, ρ')) → (lcLoop ii f gt ge xs ρ1).run K E
  | [], n, ρ1, K, _, hC, _, hK => hK [] ρ1 rfl (fun _ z => nomatch z) hC
  | x :: xs, n, ρ1, K, hM, hC, hs, hK => by
    rw [List.length_cons] at hM
    obtain ⟨ρ2, e1, e2, e3⟩ := hs x List.mem_cons_self n ρ1 (by omega) hC
    unfold lcLoop
    rw [e1]
    dsimp only
    rw [e2]
    simp only [Wp.ret_bind, if_true, Wp.run_bind]
    refine e3 fun y ρ3 hy c3 => ?_
    exact lcLoop_run (K := fun r => K (y :: r.1, r.2)) C P M xs (n + 1) ρ3 (by omega) c3 (fun x hx => hs x (List.mem_cons_of_mem _ hx)) fun ys ρ' hl hP c' =>
      hK (y :: ys) ρ' (by rw [List.length_cons, hl, List.length_cons]) (fun z hz => (List.mem_cons.mp hz).elim (fun e => by rw [e]; exact hy) (hP z)) (by
        rw [List.length_cons]
        have e : n + (xs.length + 1) = n + 1 + xs.length := by omega
        rw [e]; exact c')
/-- a comprehension that draws -/
theorem lLc_run {ii : List Nat} {gi : GI} {f : GG} {gt : GT} {ge : GE} {ρ : Env'} {xs : List PV} {K : List PV × Env' → Prop} {E : XE' → Prop} (C : Nat → Env' → Prop) (P : PV → Prop) (hi : gi ρ = .ret (xs, ρ)) (hz : xs.length ≤ sizeLine) (fr : frozenAt ρ ii = true) (hC : C 0 ρ)
    (hs : ∀ x ∈ xs, ∀ m ρ1, m < xs.length → C m ρ1 → ∃ ρ2, f x (wipeE ρ1 ii) = some ρ2 ∧ gt ρ2 = .ret (true, ρ2) ∧ ∀ {K : PV × Env' → Prop} {E : XE' → Prop}, (∀ y ρ3, P y → C (m + 1) ρ3 → K (y, ρ3)) → (ge ρ2).run K E)
    (hK : ∀ ys ρ', ys.length = xs.length → (∀ y ∈ ys, P y) → C xs.length ρ' → K (ys, backE ρ' ρ ii)) : (lLc ii gi f gt ge ρ).run K E := by
  unfold lLc
  rw [hi]
  simp only [Wp.ret_bind]
  rw [if_pos ⟨hz, fr⟩]
  simp only [Wp.run_bind, noEx_run]
  exact lcLoop_run C P xs.length xs 0 ρ (by omega) hC hs fun ys ρ' hl hP c => hK ys ρ' hl hP (by rw [Nat.zero_add] at c; exact c)
/-- a loop that runs to its end -/
theorem for_run {f : GG} {g : GS} {K : Out → Prop} {E : XE' → Prop} (C : Nat → Env' → Prop) : ∀ (xs : List PV) (n : Nat) (ρ : Env'), C n ρ →
    (∀ x ∈ xs, ∀ m ρ1, C m ρ1 → m < n + xs.length → ∃ ρ2, f x ρ1 = some ρ2 ∧ ∀ {K : Out → Prop} {E : XE' → Prop}, (∀ ρ', C (m + 1) ρ' → K (.nx ρ')) → (g ρ2).run K E) →
    (∀ ρ', C (n + xs.length) ρ' → K (.nx ρ')) → (forLoop f g xs ρ).run K E
  | [], n, ρ, hC, _, hK => hK ρ hC
  | x :: xs, n, ρ, hC, hs, hK => by
    obtain ⟨ρ2, e1, e2⟩ := hs x List.mem_cons_self n ρ hC (by rw [List.length_cons]; omega)
    unfold forLoop
    rw [e1]
    simp only [Wp.run_bind]
    refine e2 (K := fun o => (match o with
        | .nx ρ2 => forLoop f g xs ρ2
        | .ct ρ2 => forLoop f g xs ρ2
        | .bk ρ2 => .ret (.nx ρ2)
        | .rt v ρ2 => .ret (.rt v ρ2)
        | .th (some b) ρ2 => .ret (.th (some b) ρ2)
        | .th none _ => .stuck : Wp XE' Out).run K E) fun ρ' c' => ?_
    exact for_run C xs (n + 1) ρ' c' (fun y hy m ρ1 hc hm => hs y (List.mem_cons_of_mem _ hy) m ρ1 hc (by rw [List.length_cons]; omega)) fun ρ'' c'' => hK ρ'' (by
      rw [List.length_cons]
      have : n + (xs.length + 1) = n + 1 + xs.length := by omega
      rw [this]; exact c'')
/-- a draw -/
theorem take_at {ρ : Env'} {j n : Nat} {m : Int} (h2 : ρ[j]? = some (.bx n)) (h0 : 0 < m) (h1 : m < 1073741824) (hn : n < 4294967296) :
    eCallB mTake j (aCons (eC (.int m)) aNil) ρ = .all (fun d : Int => 0 ≤ d ∧ d < m) fun d => .ret (.int d, ρ.set j (.bx (n + 1))) := by
  have o : ownAt ρ j = true := by unfold ownAt; rw [h2]; rfl
  rw [c_eCallB, if_pos o]
  simp only [c_aCons, c_aNil, c_eC, Wp.ret_bind]
  unfold boxCall
  rw [h2]
  have e : mTake (SV.bx n :: fzs [.int m]) = .all (fun d : Int => 0 ≤ d ∧ d < m) fun d => .ret (.int d, [.bx (n + 1), .un]) := by
    show (if 0 < m ∧ m < 1073741824 ∧ n < 4294967296 then _ else _) = _
    rw [if_pos ⟨h0, h1, hn⟩]
  dsimp only
  rw [if_pos (show (SV.bx n).own = true from rfl), e]
  rfl
/-- .. of so many as a value tells -/
theorem take_val {ρ : Env'} {j n : Nat} {m : Int} {g : GE} (hg : g ρ = .ret (.int m, ρ)) (h2 : ρ[j]? = some (.bx n)) (h0 : 0 < m) (h1 : m < 1073741824) (hn : n < 4294967296) :
    eCallB mTake j (aCons g aNil) ρ = .all (fun d : Int => 0 ≤ d ∧ d < m) fun d => .ret (.int d, ρ.set j (.bx (n + 1))) := by
  rw [← take_at h2 h0 h1 hn, c_eCallB, c_eCallB]
  simp only [c_aCons, c_aNil, c_eC, Wp.ret_bind, hg]
/-! ### a text cut at a sign -/
def cutAt (d : Nat) : List Nat → List (List Nat)
  | [] => [[]]
  | c :: cs => if c = d then [] :: cutAt d cs else match cutAt d cs with
    | p :: ps => (c :: p) :: ps
    | [] => [[c]]
def interD (d : Nat) : List (List Nat) → List Nat
  | [] => []
  | [p] => p
  | p :: ps => p ++ d :: interD d ps
theorem cutAt_ne (d : Nat) : ∀ l, cutAt d l ≠ []
  | [] => fun h => nomatch h
  | c :: cs => by
    unfold cutAt
    split
    · exact fun h => nomatch h
    · split <;> exact fun h => nomatch h
theorem inter_cutAt (d : Nat) : ∀ l, interD d (cutAt d l) = l
  | [] => rfl
  | c :: cs => by
    have ih := inter_cutAt d cs
    unfold cutAt
    split
    · rename_i e
      subst e
      cases h : cutAt c cs with
      | nil => exact absurd h (cutAt_ne c cs)
      | cons p ps => rw [h] at ih; show [] ++ c :: interD c (p :: ps) = _; rw [ih]; rfl
    · cases h : cutAt d cs with
      | nil => exact absurd h (cutAt_ne d cs)
      | cons p ps =>
        rw [h] at ih
        cases ps with
        | nil => exact congrArg (c :: ·) ih
        | cons q qs => exact congrArg (c :: ·) ih
theorem cutAt_free (d : Nat) : ∀ l, ∀ p ∈ cutAt d l, d ∉ p
  | [], p, h => by
    simp [cutAt] at h
    subst h
    exact fun z => nomatch z
  | c :: cs, p, h => by
    unfold cutAt at h
    have ih := cutAt_free d cs
    split at h
    · rcases List.mem_cons.mp h with e | e
      · subst e; exact fun z => nomatch z
      · exact ih p e
    · rename_i hc
      cases hq : cutAt d cs with
      | nil => exact absurd hq (cutAt_ne d cs)
      | cons q qs =>
        rw [hq] at h ih
        rcases List.mem_cons.mp h with e | e
        · subst e
          intro z
          rcases List.mem_cons.mp z with z | z
          · exact hc z.symm
          · exact ih q List.mem_cons_self z
        · exact ih p (List.mem_cons_of_mem _ e)
theorem cutD_one {d : Nat} : ∀ {a b x y : List Nat}, d ∉ a → d ∉ b → a ++ d :: x = b ++ d :: y → a = b ∧ x = y
  | [], [], x, y, _, _, h => by simp at h; exact ⟨rfl, h⟩
  | [], c :: b, x, y, _, hb, h => by
    simp at h
    exact absurd (by rw [h.1]; exact List.mem_cons_self) hb
  | c :: a, [], x, y, ha, _, h => by
    simp at h
    exact absurd (by rw [← h.1]; exact List.mem_cons_self) ha
  | c :: a, e :: b, x, y, ha, hb, h => by
    simp at h
    obtain ⟨h1, h2⟩ := cutD_one (fun z => ha (List.mem_cons_of_mem _ z)) (fun z => hb (List.mem_cons_of_mem _ z)) h.2
    exact ⟨by rw [h.1, h1], h2⟩
theorem interD_inj {d : Nat} : ∀ {ps qs : List (List Nat)}, (∀ p ∈ ps, d ∉ p) → (∀ p ∈ qs, d ∉ p) → ps ≠ [] → qs ≠ [] → interD d ps = interD d qs → ps = qs
  | [], _, _, _, h, _, _ => absurd rfl h
  | _ :: _, [], _, _, _, h, _ => absurd rfl h
  | [p], [q], _, _, _, _, h => by rw [show p = q from h]
  | [p], q :: r :: qs, hp, _, _, _, h => by
    have h' : p = q ++ d :: interD d (r :: qs) := h
    exact absurd (by rw [h']; simp) (hp p List.mem_cons_self)
  | p :: r :: ps, [q], _, hq, _, _, h => by
    have h' : p ++ d :: interD d (r :: ps) = q := h
    exact absurd (by rw [← h']; simp) (hq q List.mem_cons_self)
  | p :: r :: ps, q :: s :: qs, hp, hq, _, _, h => by
    obtain ⟨h1, h2⟩ := cutD_one (hp p List.mem_cons_self) (hq q List.mem_cons_self) (show p ++ d :: interD d (r :: ps) = q ++ d :: interD d (s :: qs) from h)
    rw [h1, interD_inj (fun z hz => hp z (List.mem_cons_of_mem _ hz)) (fun z hz => hq z (List.mem_cons_of_mem _ hz)) (fun z => nomatch z) (fun z => nomatch z) h2]
theorem cutAt_of {d : Nat} {ps : List (List Nat)} (hf : ∀ p ∈ ps, d ∉ p) (hn : ps ≠ []) : cutAt d (interD d ps) = ps := interD_inj (cutAt_free d _) hf (cutAt_ne d _) hn (inter_cutAt d _)
theorem cutAt_app (d : Nat) : ∀ l : List Nat, cutAt d (l ++ [d]) = cutAt d l ++ [[]]
  | [] => by simp [cutAt]
  | c :: cs => by
    rw [List.cons_append]
    unfold cutAt
    rw [cutAt_app d cs]
    split
    · rfl
    · cases h : cutAt d cs with
      | nil => exact absurd h (cutAt_ne d cs)
      | cons p ps => rfl
theorem cutAt_len (d : Nat) : ∀ l : List Nat, (cutAt d l).length ≤ l.length + 1
  | [] => by simp [cutAt]
  | c :: cs => by
    have ih := cutAt_len d cs
    unfold cutAt
    split
    · rw [List.length_cons, List.length_cons]; omega
    · cases h : cutAt d cs with
      | nil => exact absurd h (cutAt_ne d cs)
      | cons p ps => rw [h] at ih; rw [List.length_cons] at ih ⊢; rw [List.length_cons]; omega
theorem cutAt_sub (d : Nat) : ∀ l : List Nat, ∀ p ∈ cutAt d l, p.length ≤ l.length ∧ ∀ c ∈ p, c ∈ l
  | [], p, h => by
    simp [cutAt] at h
    subst h
    exact ⟨Nat.le_refl _, fun _ z => z⟩
  | c :: cs, p, h => by
    unfold cutAt at h
    have ih := cutAt_sub d cs
    split at h
    · rcases List.mem_cons.mp h with e | e
      · subst e; exact ⟨Nat.zero_le _, fun _ z => nomatch z⟩
      · exact ⟨by have := (ih p e).1; rw [List.length_cons]; omega, fun x hx => List.mem_cons_of_mem _ ((ih p e).2 x hx)⟩
    · cases hq : cutAt d cs with
      | nil => exact absurd hq (cutAt_ne d cs)
      | cons q qs =>
        rw [hq] at h ih
        rcases List.mem_cons.mp h with e | e
        · subst e
          refine ⟨by have := (ih q List.mem_cons_self).1; rw [List.length_cons, List.length_cons]; omega, fun x hx => ?_⟩
          rcases List.mem_cons.mp hx with z | z
          · rw [z]; exact List.mem_cons_self
          · exact List.mem_cons_of_mem _ ((ih q List.mem_cons_self).2 x z)
        · exact ⟨by have := (ih p (List.mem_cons_of_mem _ e)).1; rw [List.length_cons]; omega, fun x hx => List.mem_cons_of_mem _ ((ih p (List.mem_cons_of_mem _ e)).2 x hx)⟩
theorem interD_join (d : Nat) : ∀ L : List Str, Str.join (S [d]) L = S (interD d (L.map fun p => p.cps.toList))
  | [] => rfl
  | [a] => rfl
  | a :: b :: r => by
    have e := interD_join d (b :: r)
    show a ++ S [d] ++ Str.join (S [d]) (b :: r) = _
    rw [e]
    show S a.cps.toList ++ S [d] ++ S (interD d ((b :: r).map fun p => p.cps.toList)) = _
    rw [S_append, S_append]
    simp [interD]
theorem split_S (d : Nat) (l : List Nat) : (Txt.split (S l) (S [d])).map PV.str = (cutAt d l).map fun p => PV.str (S p) := by
  have key : (Txt.split (S l) (S [d])).map (fun p => p.cps.toList) = cutAt d l := by
    have q := StrLaws.join_split (S l) (S [d])
    rw [interD_join] at q
    have q' := S_inj q
    rw [← q', cutAt_of]
    · rw [q']
    · intro p hp
      obtain ⟨z, hz, rfl⟩ := List.mem_map.mp hp
      exact StrLaws.split_free (S l) d z hz
    · unfold Txt.split
      intro h
      have h' := List.map_eq_nil_iff.mp h
      split at h'
      · cases h'
      · split at h'
        · cases h'
        · obtain ⟨p, r, e⟩ := StrLaws.partsFrom_ne (S l) (S [d]).length 0 (Builtin.Str.occurrences (S l) (S [d]) 0 (S l).length ((S l).length + 1))
          rw [StrLaws.partsBetween_eq, e] at h'
          cases h'
  rw [← key, List.map_map]
  rfl
end VL

set_option Elab.async false
set_option linter.all false
set_option maxRecDepth 100000
set_option maxHeartbeats 1000000
/-! VL, part 23: own classes: objects made, their attributes, their __init__. -/
namespace VL
open PySem PySem.Spec PyProof.Rows L2

/-! ### C(e, ..), what is raised told by the slots -/
def tNewS (C : Addr) (sp : Sp) (E : St → XK) (t : TA) : TE := fun σ H Q => t σ H fun vs H1 => ∀ x dx, H1 x = none → H1 dx = none → dx ≠ x → sp (.ref x :: vs) (upd (upd H1 dx (.own x)) x (.ins C dx [])) (fun v H2 => v = .non ∧ Q (.ref x) H2) (E σ)
section
variable {X : Cx} {W : WX} {k : Nat} {f C : Addr} {fd : FuncData} {ps : List Str} {sp : Sp} {x : Str} {p pos : Pos} {e : Expr} {es : List Expr} {t : TA}
theorem run_newS {pins : List (Addr × Obj)} {σ : St} {H : Hp} {s : Shared} {Q : VK} {us : List Value} {vs : List V} {E : XK} (M : Mk X.K C f) (G : FnOk X.prog X.w X.K X.mg X.base (L2.CX X.prog X.w) k f fd ps sp) (hr : Room (k + 1) X.A) (hb : Binds X.K fd ps []) (hx : PassesAt (L2.CX X.prog X.w) X σ E)
    (I : Inv X pins σ H s) (r : Vals vs us) (h : ∀ x dx, H x = none → H dx = none → dx ≠ x → sp (.ref x :: vs) (upd (upd H dx (.own x)) x (.ins C dx [])) (fun v H2 => v = .non ∧ Q (.ref x) H2) E) : wpAny (model X.prog X.w) X.A (call (.ref C) us) (EP X pins σ Q) X.xe s := by
  have q0 := h (s.heap.objs.size + 1) s.heap.objs.size (I.hok.fresh (Nat.le_succ _)) (I.hok.fresh (Nat.le_refl _)) (Nat.ne_of_lt (Nat.lt_succ_self _))
  have J := Inv.made (C := C) I
  have rr : Vals (V.ref (s.heap.objs.size + 1) :: vs) (Value.ref (s.heap.objs.size + 1) :: us) := .cons rfl r
  have hl : (Value.ref (s.heap.objs.size + 1) :: us ++ []).length = ps.length := by
    have e1 := rr.length
    rw [G.len _ _ _ _ q0] at e1
    rw [List.append_nil]; exact e1.symm
  have bd := hb _ (Value.ref (s.heap.objs.size + 1) :: us) J.kIn hl
  rw [List.append_nil] at bd
  refine wpAny_call (make_map (f := f) I.kIn M.makes M.init (beq_iff_eq.mp M.fn) (codeAny_mono (G.run _ X.stack _ _ ⟨Value.ref (s.heap.objs.size + 1) :: us, []⟩ (Value.ref (s.heap.objs.size + 1) :: us) _ _ E (hr.make C us []) (J.env0.make C us []) bd rr q0) fun w s' hw => ?_))
  cases w with
  | error e => exact hx pins _ _ e s' J hw
  | ok fl =>
    cases fl with
    | ret u =>
      obtain ⟨v, H', I3, rv, ev, q3⟩ := J.after hw
      subst ev
      exact ⟨rv, V.ref (s.heap.objs.size + 1), H', I3, rfl, q3⟩
    | _ => exact hw.elim
theorem pe_newS (M : Mk X.K C f) (G : FnOk X.prog X.w X.K X.mg X.base (L2.CX X.prog X.w) k f fd ps sp) (hr : Room (k + 1) X.A) (hg : Gl X x) (hm : X.mg x = some (.ref C)) (hb : Binds X.K fd ps []) (tk : Takes X W) (ha : PA X (e :: es) t)
    (hdb : (x == ("__debug__" : Str)) = false := by decide) (he : starEach (e :: es) X.env = (false, eval e X.env) :: starEach es X.env := by rfl) (hpl : (backTo pos (starEach es X.env)).any (·.1) = false := by rfl) : PE X (.Call (.Name x p) (e :: es) [] pos) (tNewS C sp (WE W) t) :=
  ⟨fun pins s σ H Q I h => wpAny_Call_Name_kw (ld_glob I hg hm (PySem.W.callWith_K (h₀ := X.base) I.ok.mod.kin M.kp (thn (ha.run pos pins s σ H _ I h) fun us s1 ⟨vs, H1, I1, r, q⟩ => ⟨I1.kIn, run_newS M G hr hb (passAt tk σ) I1 r q⟩) he hpl) hdb)⟩
end

/-! ### what an __init__ promises -/
structure GrowX (x : Addr) (F H F' H' : Hp) : Prop where
  ff : Same F F'
  hh : ∀ p o, p ≠ x → H p = some o → H' p = some o ∧ (F p = none → F' p = none)
  sub : Same F' H'
abbrev GN := List PV → Wp Ex (List (Str × PV))
def SpI (c : Cn) (n k : Nat) (m : GN) : Sp := fun vs H Q E => ∃ x dx ws F as, vs = .ref x :: ws ∧ ws.length = n ∧ H x = some (.ins (c.cA k) dx []) ∧ F x = none ∧ Same F H ∧ (∀ p, c.B p → ∃ o, H p = some o) ∧ Reps c F ws as ∧
  (m as).run (fun fs => ∀ vs' F' H', GrowX x F H F' H' → F' x = none → H' x = some (.ins (c.cA k) dx vs') → RepF c F' vs' fs → Q .non H') (fun e => ∀ d F' H', GrowX x F H F' H' → F' x = none → ExD c F' H' d e.fs → E (.ref (c.cA e.k)) d H')
structure ClsT (K : PySem.W.Frag) (C fI : Addr) (fs : List Str) : Prop where
  c : Cls K C
  M : Mk K C fI
  no : ∀ f, f ∈ fs → NoAttr K C f
  ha : PySem.W.findIn K (.ref C) "__class__" = some (some (.builtin "object.__class__"))
  hn : PySem.W.specialIn K (.builtin "object.__class__") "__get__" = some (some (.builtin "getset_descriptor.__get__"))
  ht : PySem.W.takesIn K (.builtin "object.__class__") = some true
  hm : PySem.W.mroIn K C (.type "object") = some true
/-- the class x, number k, with these attributes; its __init__ takes n arguments -/
structure Nv (P : Program) (w : World) (K : PySem.W.Frag) (mg : Str → Option Value) (base : Heap) (c : Cn) (j : Nat) (x : Str) (k n : Nat) (m : GN) : Prop where
  ex : ∃ fI fd ps, Mk K (c.cA k) fI ∧ mg x = some (.ref (c.cA k)) ∧ FnOk P w K mg base (L2.CX P w) j fI fd ps (SpI c n k m) ∧ Binds K fd ps []
def eNew (k : Nat) (m : GN) (ga : GA) : GE := fun ρ => (ga ρ).bind fun a => ((m a.1).mapE fun e => (e, a.2)).bind fun fs => .ret (.ins k fs, a.2)
section
variable {c : Cn} {X : Cx} {W : WX} {pos p : Pos} {x : Str} {σ : St} {ρ : Env'} {F H : Hp}
theorem ve_new {k j r n : Nat} {m : GN} {e : Expr} {es : List Expr} {ga : GA} (N : Nv X.prog X.w X.K X.mg X.base c j x k n m) (hr : Room r X.A) (hj : j + 1 ≤ r) (hg : Gl X x) (tk : Takes X W) (ha : PA X (e :: es) (tA c W n ga))
    (hdb : (x == ("__debug__" : Str)) = false := by decide) (he : starEach (e :: es) X.env = (false, eval e X.env) :: starEach es X.env := by rfl) (hpl : (backTo pos (starEach es X.env)).any (·.1) = false := by rfl) : PE X (.Call (.Name x p) (e :: es) [] pos) (tE c W (eNew k m ga)) := by
  obtain ⟨fI, fd, ps, M, hm, G, hb⟩ := N.ex
  refine imp_PE (pe_newS M G (hr.mono hj) hg hm hb tk ha hdb he hpl) fun σ H Q ⟨ρ, F, er, z⟩ => tA_bind er z fun v ρ1 vs F1 H1 st rep hl h1 => fun x dx hx hdx hne => ?_
  have fx := st.2.sub.free hx
  have up : ∀ p o, H1 p = some o → (upd (upd H1 dx (.own x)) x (.ins (c.cA k) dx [])) p = some o := fun p o h => by
    rw [upd_ne (ne_of_none h hx), upd_ne (ne_of_none h hdx)]; exact h
  have gr : ∀ {F' H'}, GrowX x F1 (upd (upd H1 dx (.own x)) x (.ins (c.cA k) dx [])) F' H' → Grow F1 H1 F' H' := fun {F' H'} g =>
    ⟨g.ff, fun p o h => (g.hh p o (ne_of_none h hx) (up p o h)).1, g.sub, fun p o h => (g.hh p o (ne_of_none h hx) (up p o h)).2⟩
  refine ⟨x, dx, vs, F1, v, rfl, hl, upd_same, fx, fun p o h => up p o (st.2.sub p o h), fun p b => (st.2.mrk p b).elim fun o h => ⟨o, up p o h⟩, rep, (m v).mono (fun fs q vs' F' H' g hF hH rf => ?_) (fun e q d F' H' g hF ex => ?_) h1⟩
  · have g1 := gr g
    have fz := freeze_grow g1.sub hF hH
    have g2 : Grow F1 H1 (upd F' x (.ins (c.cA k) dx vs')) H' := ⟨g1.ff.trans fz.1, g1.hh, fz.2, fun p o h n => by rw [upd_ne (ne_of_none h hx)]; exact g1.nf p o h n⟩
    exact ⟨rfl, q (.ref x) _ H' (st.trans (g2.stpE st.2)) (.ins upd_same (rf.mono fz.1))⟩
  · exact q d F' H' ((gr g).stpE st.2) ex

/-! ### o.f -/
def fldP (fs : List Str) (f : Str) (k : Nat) : PV → Option PV
  | .ins j vs => if j = k ∧ f ∈ fs then vs.lookup f else none
  | _ => none
def eFld (fs : List Str) (f : Str) (k : Nat) (g : GE) : GE := fun ρ => (g ρ).bind fun a => lift (fldP fs f k a.1) a.2
theorem ve_fld {k : Nat} {f : Str} {fs : List Str} {fI : Addr} {e : Expr} {ge : GE} (hk : c.K = X.K) (T : ClsT X.K (c.cA k) fI fs) (he : PE X e (tE c W ge)) (hb : attributeBase e f X.env (eval e X.env) = eval e X.env := by rfl) : PE X (.Attribute e f pos) (tE c W (eFld fs f k ge)) :=
  imp_PE (pe_fld he hb) fun σ H Q ⟨ρ, F, er, z⟩ => tE_bind er z fun v ρ1 w F1 H1 st rep h1 => by
    obtain ⟨u, e1, h2⟩ := lift_run h1
    cases rep with
    | @ins a dx vs j xs hF r =>
      unfold fldP at e1
      dsimp only at e1
      split at e1
      · rename_i hj
        obtain ⟨rfl, hf⟩ := hj
        obtain ⟨w, h3, h4⟩ := r.lookup e1
        exact ⟨a, _, dx, vs, w, rfl, st.2.sub _ _ hF, T.c, T.no f hf, h3, h2 w F1 H1 st h4⟩
      · cases e1
    | _ => cases e1
end

/-! ### __init__: tests first, then the attributes -/
def nown (ρ : Env') : Bool := ρ.all fun s => !s.own
theorem nown_own {σ : St} {ρ : Env'} (h : nown ρ = true) (p : Addr) : ¬ Own σ ρ p := fun ⟨i, s, _, h2, h3⟩ => by
  have := List.all_eq_true.mp h s (List.mem_of_getElem? h2)
  rw [h3] at this
  cases this
mutual
/-- no object below -/
def noIns : PV → Bool
  | .non => true | .bl _ => true | .int _ => true | .str _ => true | .any => true
  | .tup xs => noInss xs
  | .lst _ xs => noInss xs
  | _ => false
def noInss : List PV → Bool
  | [] => true
  | x :: xs => noIns x && noInss xs
end
/-- all but what stands at x -/
def less (F : Hp) (x : Addr) : Hp := fun a => if a = x then none else F a
theorem less_ne {F : Hp} {x a : Addr} (h : a ≠ x) : less F x a = F a := if_neg h
theorem less_eq {F : Hp} {x : Addr} : less F x x = none := if_pos rfl
mutual
theorem noIns_rep {c : Cn} {F : Hp} {x C dx : Addr} {us : List (Str × V)} (hx : F x = some (.ins C dx us)) : ∀ {v : V} {y : PV}, Rep c F v y → noIns y = true → Rep c (less F x) v y
  | _, _, .non, _ => .non
  | _, _, .bl b, _ => .bl b
  | _, _, .int i, _ => .int i
  | _, _, .str x, _ => .str x
  | _, _, .tup h r, e => .tup (by rw [less_ne (fun z => by subst z; rw [hx] at h; cases h)]; exact h) (noInss_rep hx r (by unfold noIns at e; exact e))
  | _, _, .lst h r t, e => .lst (by rw [less_ne (fun z => by subst z; rw [hx] at h; cases h)]; exact h) (noInss_rep hx r (by unfold noIns at e; exact e)) t
  | _, _, .any v, _ => .any v
  | _, _, .dic h r t, e => by unfold noIns at e; cases e
  | _, _, .ins h r, e => by unfold noIns at e; cases e
  | _, _, .scr h, e => by unfold noIns at e; cases e
theorem noInss_rep {c : Cn} {F : Hp} {x C dx : Addr} {us : List (Str × V)} (hx : F x = some (.ins C dx us)) : ∀ {vs : List V} {ys : List PV}, Reps c F vs ys → noInss ys = true → Reps c (less F x) vs ys
  | _, _, .nil, _ => .nil
  | _, _, .cons h r, e => by
    unfold noInss at e
    rw [Bool.and_eq_true] at e
    exact .cons (noIns_rep hx h e.1) (noInss_rep hx r e.2)
end
/-- the attributes one by one: (name, is self looked at, the value) -/
def runF (k : Nat) : List (Str × Bool × GE) → List (Str × PV) → Env' → Wp XE' (List (Str × PV))
  | [], fs, _ => .ret fs
  | (f, false, g) :: gs, fs, ρ => if nown ρ = true then (noE (g ρ)).bind fun a => if nown a.2 = true ∧ fs.lookup f = none ∧ fs.length < 900 then runF k gs (fs ++ [(f, a.1)]) a.2 else .stuck else .stuck
  | (f, true, g) :: gs, fs, ρ => if nown ρ = true then (noE (g (ρ.set 0 (.fz (.ins k fs))))).bind fun a => if nown a.2 = true ∧ noIns a.1 = true ∧ fs.lookup f = none ∧ fs.length < 900 then runF k gs (fs ++ [(f, a.1)]) (ρ.set 0 .un) else .stuck else .stuck
def tFl (c : Cn) (k : Nat) (gs : List (Str × Bool × GE)) : TS := fun D σ H => ∃ ρ F x dx vs fs, ER c F H σ ρ ∧ σ[0]? = some (some (.ref x)) ∧ F x = none ∧ nown ρ = true ∧ H x = some (.ins (c.cA k) dx vs) ∧ RepF c F vs fs ∧
  (runF k gs fs ρ).run (fun r => ∀ F' H' vs', GrowX x F H F' H' → F' x = none → H' x = some (.ins (c.cA k) dx vs') → RepF c F' vs' r → D.nx σ H') fun _ => False

theorem RepF.putF {c : Cn} {F : Hp} {f : Str} {w : V} {v : PV} (r : Rep c F w v) : ∀ {vs : List (Str × V)} {fs : List (Str × PV)}, RepF c F vs fs → fs.lookup f = none → RepF c F (L2.putF f w vs) (fs ++ [(f, v)])
  | _, _, .nil, _ => .cons r .nil
  | _, _, @RepF.cons _ _ k u x vs xs h t, e => by
    have ne : ¬ k = f := fun z => by subst z; simp [List.lookup] at e
    have e' : xs.lookup f = none := by
      rw [List.lookup_cons] at e
      have : (f == k) = false := by simpa [beq_eq_false_iff_ne] using fun z : f = k => ne z.symm
      rw [this] at e
      exact e
    show RepF c F (if k = f then (k, w) :: vs else (k, u) :: L2.putF f w vs) ((k, x) :: (xs ++ [(f, v)]))
    rw [if_neg ne]
    exact .cons h (RepF.putF r t e')
theorem RepF.length {c : Cn} {F : Hp} : ∀ {vs : List (Str × V)} {xs : List (Str × PV)}, RepF c F vs xs → vs.length = xs.length
  | _, _, .nil => rfl
  | _, _, .cons _ r => congrArg (· + 1) (RepF.length r)
theorem GrowX.refl {x : Addr} {F H : Hp} (s : Same F H) : GrowX x F H F H := ⟨Same.refl F, fun p o _ h => ⟨h, fun z => z⟩, s⟩
theorem GrowX.trans {x : Addr} {F H F1 H1 F2 H2 : Hp} (a : GrowX x F H F1 H1) (b : GrowX x F1 H1 F2 H2) : GrowX x F H F2 H2 :=
  ⟨a.ff.trans b.ff, fun p o n h => ⟨(b.hh p o n (a.hh p o n h).1).1, fun z => (b.hh p o n (a.hh p o n h).1).2 ((a.hh p o n h).2 z)⟩, b.sub⟩
section
variable {c : Cn} {X : Cx} {W : WX} {k : Nat} {f : Str} {fs : List Str} {fI : Addr} {o e : Expr} {g : GE} {gs : List (Str × Bool × GE)} {rest : List Stmt} {pos pos' : Pos}
theorem vf_nil : PSs X [] (tFl c k []) := imp_PSs pss_nil fun D σ H ⟨ρ, F, x, dx, vs, fs, er, h0, hF, hn, hH, rf, z⟩ => z F H vs (GrowX.refl er.sub) hF hH rf
/-- self.f = e -/
theorem vf_put (hk : c.K = X.K) (T : ClsT X.K (c.cA k) fI fs) (hf : f ∈ fs) (ho : PE X o (tVar 0)) (he : PE X e (tE c W0 g)) (hr : PSs X rest (tFl c k gs)) (hs : swapsWith e (some (.Attribute o f pos')) pos.line X.env = pure false := by rfl) :
    PSs X (.Assign [.Attribute o f pos'] e pos :: rest) (tFl c k ((f, false, g) :: gs)) :=
  imp_PSs (pss_cons (ps_fld ho he hs) hr) fun D σ H ⟨ρ, F, x, dx, vs, xs, er, h0, hF, hn, hH, rf, z⟩ => by
    unfold runF at z
    rw [if_pos hn] at z
    refine ⟨ρ, F, er, (g ρ).mono (fun r q w F1 H1 st rep => ?_) (fun _ q => q.elim) z⟩
    obtain ⟨v, ρ1⟩ := r
    have q' : (if nown ρ1 = true ∧ xs.lookup f = none ∧ xs.length < 900 then runF k gs (xs ++ [(f, v)]) ρ1 else .stuck : Wp XE' (List (Str × PV))).run _ _ := q
    by_cases hc : nown ρ1 = true ∧ xs.lookup f = none ∧ xs.length < 900
    · rw [if_pos hc] at q'
      obtain ⟨h1, h2⟩ := st.1.hh x _ hH (nown_own hn x)
      have hF1 := h2 hF
      have le : vs.length < 1000 := by rw [rf.length]; omega
      refine ⟨.ref x, h0, x, c.cA k, dx, vs, rfl, h1, T.c, T.no f hf, le, ?_⟩
      have er1 : ER c F1 (upd H1 x (.ins (c.cA k) dx (L2.putF f w vs))) σ ρ1 := er_upd st.2 hF1 (nown_own hc.1 x)
      have g1 : GrowX x F H F1 (upd H1 x (.ins (c.cA k) dx (L2.putF f w vs))) := ⟨st.1.ff, fun p ob n h => by
        obtain ⟨a1, a2⟩ := st.1.hh p ob h (nown_own hn p)
        exact ⟨by rw [upd_ne n]; exact a1, a2⟩, er1.sub⟩
      exact ⟨ρ1, F1, x, dx, L2.putF f w vs, xs ++ [(f, v)], er1, h0, hF1, hc.1, upd_same, (rf.mono st.1.ff).putF rep hc.2.1, (runF k gs (xs ++ [(f, v)]) ρ1).mono (fun r q F' H' vs' g2 hF' hH' rf' => q F' H' vs' (g1.trans g2) hF' hH' rf') (fun _ q => q) q'⟩
    · rw [if_neg hc] at q'
      exact q'.elim
/-- self.f = e, where e looks at self -/
theorem vf_self (hk : c.K = X.K) (T : ClsT X.K (c.cA k) fI fs) (hf : f ∈ fs) (ho : PE X o (tVar 0)) (he : PE X e (tE c W0 g)) (hr : PSs X rest (tFl c k gs)) (hs : swapsWith e (some (.Attribute o f pos')) pos.line X.env = pure false := by rfl) :
    PSs X (.Assign [.Attribute o f pos'] e pos :: rest) (tFl c k ((f, true, g) :: gs)) :=
  imp_PSs (pss_cons (ps_fld ho he hs) hr) fun D σ H ⟨ρ, F, x, dx, vs, xs, er, h0, hF, hn, hH, rf, z⟩ => by
    unfold runF at z
    rw [if_pos hn] at z
    have fz := freeze_grow er.sub hF hH
    have er0 : ER c (upd F x (.ins (c.cA k) dx vs)) H σ (ρ.set 0 (.fz (.ins k xs))) := by
      have e1 := (freeze_er er hF hH (nown_own hn x)).set (i := 0) (w := .ref x) (v := .ins k xs) (.ins upd_same (rf.mono fz.1))
      have : σ.set 0 (some (.ref x)) = σ := by
        apply List.ext_getElem?
        intro i
        by_cases hi : 0 = i
        · subst hi
          have l0 : 0 < σ.length := (List.getElem?_eq_some_iff.mp h0).1
          rw [List.getElem?_set_self l0, h0]
        · rw [List.getElem?_set_ne hi]
      rw [this] at e1
      exact e1
    have nO : ∀ p, ¬ Own σ (ρ.set 0 (.fz (.ins k xs))) p := fun p ⟨i, s, h1, h2, h3⟩ => by
      by_cases hi : 0 = i
      · subst hi
        rw [List.getElem?_set_self (by have := (List.getElem?_eq_some_iff.mp h2).1; rwa [List.length_set] at this)] at h2
        cases h2
        cases h3
      · rw [List.getElem?_set_ne hi] at h2
        exact nown_own hn p ⟨i, s, h1, h2, h3⟩
    refine ⟨_, _, er0, (g _).mono (fun r q w F1 H1 st rep => ?_) (fun _ q => q.elim) z⟩
    obtain ⟨v, ρ1⟩ := r
    have q' : (if nown ρ1 = true ∧ noIns v = true ∧ xs.lookup f = none ∧ xs.length < 900 then runF k gs (xs ++ [(f, v)]) (ρ.set 0 .un) else .stuck : Wp XE' (List (Str × PV))).run _ _ := q
    by_cases hc : nown ρ1 = true ∧ noIns v = true ∧ xs.lookup f = none ∧ xs.length < 900
    · rw [if_pos hc] at q'
      have hx1 : F1 x = some (.ins (c.cA k) dx vs) := st.1.ff _ _ upd_same
      have h1 := (st.1.hh x _ hH (nO x)).1
      have le : vs.length < 1000 := by rw [rf.length]; omega
      have fl : Same F (less F1 x) := fun p ob h => by
        have n : p ≠ x := fun z => by rw [z, hF] at h; cases h
        rw [less_ne n]
        exact st.1.ff _ _ (by rw [upd_ne n]; exact h)
      have sl : Same (less F1 x) (upd H1 x (.ins (c.cA k) dx (L2.putF f w vs))) := fun p ob h => by
        have n : p ≠ x := fun z => by rw [z, less_eq] at h; cases h
        rw [less_ne n] at h
        rw [upd_ne n]
        exact st.2.sub _ _ h
      have g1 : GrowX x F H (less F1 x) (upd H1 x (.ins (c.cA k) dx (L2.putF f w vs))) := ⟨fl, fun p ob n h => by
        obtain ⟨a1, a2⟩ := st.1.hh p ob h (nO p)
        exact ⟨by rw [upd_ne n]; exact a1, fun z => by rw [less_ne n]; exact a2 (by rw [upd_ne n]; exact z)⟩, sl⟩
      have er1 : ER c (less F1 x) (upd H1 x (.ins (c.cA k) dx (L2.putF f w vs))) σ (ρ.set 0 .un) := ⟨sl, by rw [List.length_set]; exact er.len, fun i ob s a1 a2 => by
        by_cases hi : 0 = i
        · subst hi
          rw [List.getElem?_set_self (by have := (List.getElem?_eq_some_iff.mp a2).1; rwa [List.length_set] at this)] at a2
          cases a2
          trivial
        · rw [List.getElem?_set_ne hi] at a2
          have sr := er.slot i ob s a1 a2
          cases s with
          | un => trivial
          | fz y => obtain ⟨u, e1, e2⟩ := sr; exact ⟨u, e1, e2.mono fl⟩
          | ow ys => obtain ⟨p, us, e1, _⟩ := sr; subst e1; exact absurd ⟨i, _, a1, a2, rfl⟩ (nown_own hn p)
          | bx m => obtain ⟨p, us, e1, _⟩ := sr; subst e1; exact absurd ⟨i, _, a1, a2, rfl⟩ (nown_own hn p), fun i j s t p a1 a2 a3 a4 a5 a6 => by
        by_cases hi : 0 = i
        · subst hi
          rw [List.getElem?_set_self (by have := (List.getElem?_eq_some_iff.mp a3).1; rwa [List.length_set] at this)] at a3
          cases a3
          cases a5
        · rw [List.getElem?_set_ne hi] at a3
          exact absurd ⟨i, s, a1, a3, a5⟩ (nown_own hn p), fun p b => by
        by_cases n : p = x
        · subst n; exact ⟨_, upd_same⟩
        · obtain ⟨ob, h⟩ := st.2.mrk p b; exact ⟨ob, by rw [upd_ne n]; exact h⟩⟩
      have hn2 : nown (ρ.set 0 .un) = true := by
        unfold nown
        rw [List.all_eq_true]
        intro s hs
        rcases List.mem_or_eq_of_mem_set hs with z | z
        · exact List.all_eq_true.mp hn s z
        · subst z; rfl
      refine ⟨.ref x, h0, x, c.cA k, dx, vs, rfl, h1, T.c, T.no f hf, le, ?_⟩
      exact ⟨ρ.set 0 .un, less F1 x, x, dx, L2.putF f w vs, xs ++ [(f, v)], er1, h0, less_eq, hn2, upd_same, (rf.mono fl).putF (noIns_rep hx1 rep hc.2.1) hc.2.2.1, (runF k gs (xs ++ [(f, v)]) (ρ.set 0 .un)).mono (fun r q F' H' vs' g2 hF' hH' rf' => q F' H' vs' (g1.trans g2) hF' hH' rf') (fun _ q => q) q'⟩
    · rw [if_neg hc] at q'
      exact q'.elim
end
end VL

set_option Elab.async false
set_option linter.all false
set_option maxRecDepth 100000
set_option maxHeartbeats 1000000
/-! VL, part 24: __init__ as a whole; isinstance of an own class; == of objects. -/
namespace VL
open PySem PySem.Spec PyProof.Rows L2

/-! ### the whole __init__ -/
abbrev GIn := Env' → Wp XE' (List (Str × PV))
def iCons (g : GS) (m : GIn) : GIn := fun ρ => if nown ρ = true then (g ρ).bind fun o => match o with
  | .nx ρ1 => if nown ρ1 = true then m ρ1 else .stuck
  | _ => .stuck
  else .stuck
def iEnd (k : Nat) (gs : List (Str × Bool × GE)) : GIn := fun ρ => if nown ρ = true then runF k gs [] ρ else .stuck
def tIn (c : Cn) (W : WX) (k : Nat) (m : GIn) : TS := fun D σ H => ∃ ρ F x dx, ER c F H σ ρ ∧ σ[0]? = some (some (.ref x)) ∧ F x = none ∧ H x = some (.ins (c.cA k) dx []) ∧
  (m ρ).run (fun r => ∀ σ' F' H' vs', GrowX x F H F' H' → F' x = none → H' x = some (.ins (c.cA k) dx vs') → RepF c F' vs' r → D.nx σ' H') (fun e => ∀ σ' d F' H', GrowX x F H F' H' → F' x = none → ExD c F' H' d e.1.fs → W (.ref (c.cA e.1.k)) d σ' H')
section
variable {c : Cn} {X : Cx} {W : WX} {k n : Nat} {st : Stmt} {rest : List Stmt} {g : GS} {m : GIn} {gs : List (Str × Bool × GE)}
theorem vi_cons (h1 : PS X st (tS c pin0 W g)) (h2 : PSs X rest (tIn c W k m)) : PSs X (st :: rest) (tIn c W k (iCons g m)) :=
  imp_PSs (pss_cons h1 h2) fun D σ H ⟨ρ, F, x, dx, er, h0, hF, hH, z⟩ => by
    unfold iCons at z
    by_cases hn : nown ρ = true
    · rw [if_pos hn] at z
      have gx : ∀ {σ' ρ' F' H'}, StpS c pin0 σ ρ F H σ' ρ' F' H' → GrowX x F H F' H' := fun {σ' ρ' F' H'} s => ⟨s.1.ff, fun p o _ h => s.1.hh p o h (nown_own hn p), s.2.1.sub⟩
      refine ⟨ρ, F, er, (g ρ).mono (fun o q => ?_) (fun e q d σ' F' H' s ex => q σ' d F' H' (gx s) ((s.1.hh x _ hH (nown_own hn x)).2 hF) ex) z⟩
      cases o with
      | nx ρ1 =>
        intro σ' F' H' s
        have q' : (if nown ρ1 = true then m ρ1 else .stuck : Wp XE' (List (Str × PV))).run _ _ := q
        by_cases hn1 : nown ρ1 = true
        · rw [if_pos hn1] at q'
          obtain ⟨a1, a2⟩ := s.1.hh x _ hH (nown_own hn x)
          exact ⟨ρ1, F', x, dx, s.2.1, by rw [s.2.2.1 0 rfl]; exact h0, a2 hF, a1, (m ρ1).mono (fun r q σ2 F2 H2 vs' g2 => q σ2 F2 H2 vs' ((gx s).trans g2)) (fun e q σ2 d F2 H2 g2 => q σ2 d F2 H2 ((gx s).trans g2)) q'⟩
        · rw [if_neg hn1] at q'
          exact q'.elim
      | _ => exact q.elim
    · rw [if_neg hn] at z
      exact z.elim
theorem runF_noE : ∀ (gs : List (Str × Bool × GE)) (fs : List (Str × PV)) (ρ : Env') {K : List (Str × PV) → Prop} {E E' : XE' → Prop}, (runF k gs fs ρ).run K E → (runF k gs fs ρ).run K E'
  | [], fs, ρ, K, E, E', h => h
  | (f, false, g) :: gs, fs, ρ, K, E, E', h => by
    unfold runF at h ⊢
    by_cases hn : nown ρ = true
    · rw [if_pos hn] at h ⊢
      refine (g ρ).mono (fun r q => ?_) (fun _ q => q) h
      have q' : (if nown r.2 = true ∧ fs.lookup f = none ∧ fs.length < 900 then runF k gs (fs ++ [(f, r.1)]) r.2 else .stuck : Wp XE' (List (Str × PV))).run K E := q
      show (if nown r.2 = true ∧ fs.lookup f = none ∧ fs.length < 900 then runF k gs (fs ++ [(f, r.1)]) r.2 else .stuck : Wp XE' (List (Str × PV))).run K E'
      by_cases hc : nown r.2 = true ∧ fs.lookup f = none ∧ fs.length < 900
      · rw [if_pos hc] at q' ⊢
        exact runF_noE gs _ _ q'
      · rw [if_neg hc] at q'
        exact q'.elim
    · rw [if_neg hn] at h
      exact h.elim
  | (f, true, g) :: gs, fs, ρ, K, E, E', h => by
    unfold runF at h ⊢
    by_cases hn : nown ρ = true
    · rw [if_pos hn] at h ⊢
      refine (g _).mono (fun r q => ?_) (fun _ q => q) h
      have q' : (if nown r.2 = true ∧ noIns r.1 = true ∧ fs.lookup f = none ∧ fs.length < 900 then runF k gs (fs ++ [(f, r.1)]) (ρ.set 0 .un) else .stuck : Wp XE' (List (Str × PV))).run K E := q
      show (if nown r.2 = true ∧ noIns r.1 = true ∧ fs.lookup f = none ∧ fs.length < 900 then runF k gs (fs ++ [(f, r.1)]) (ρ.set 0 .un) else .stuck : Wp XE' (List (Str × PV))).run K E'
      by_cases hc : nown r.2 = true ∧ noIns r.1 = true ∧ fs.lookup f = none ∧ fs.length < 900
      · rw [if_pos hc] at q' ⊢
        exact runF_noE gs _ _ q'
      · rw [if_neg hc] at q'
        exact q'.elim
    · rw [if_neg hn] at h
      exact h.elim
theorem vi_end (h : PSs X rest (tFl c k gs)) : PSs X rest (tIn c W k (iEnd k gs)) :=
  imp_PSs h fun D σ H ⟨ρ, F, x, dx, er, h0, hF, hH, z⟩ => by
    unfold iEnd at z
    by_cases hn : nown ρ = true
    · rw [if_pos hn] at z
      exact ⟨ρ, F, x, dx, [], [], er, h0, hF, hn, hH, .nil, (runF k gs [] ρ).mono (fun r q F' H' vs' g2 => q σ F' H' vs' g2) (fun _ q => q) (runF_noE gs [] ρ z)⟩
    · rw [if_neg hn] at z
      exact z.elim
end
def iniV (len : Nat) (m : GIn) : GN := fun as => (m (.un :: fzs as ++ List.replicate (len - (as.length + 1)) .un)).mapE fun e => e.1
theorem er_self {c : Cn} {F H : Hp} {a : Addr} {ws : List V} {as : List PV} (s : Same F H) (mrk : ∀ p, c.B p → ∃ o, H p = some o) (r : Reps c F ws as) : ER c F H ((V.ref a :: ws).map some) (.un :: fzs as) := by
  have e0 := r.er s mrk
  refine ⟨s, by simp [fzs, r.length], fun j o t h1 h2 => ?_, fun j k t u p h1 h2 h3 h4 h5 h6 => ?_, mrk⟩
  · cases j with
    | zero => cases h2; trivial
    | succ j => exact e0.slot j o t (by simpa using h1) (by simpa using h2)
  · cases j with
    | zero => cases h3; cases h5
    | succ j => exact absurd ⟨j, t, by simpa using h1, by simpa using h3, h5⟩ (fzs_own (σ := ws.map some) (xs := as) (p := p))
theorem init_fn {c : Cn} {P : Program} {w : World} {K : PySem.W.Frag} {mg : Str → Option Value} {base : Heap} {qual : Str} {st : Stmt} {f : Addr} {fd : FuncData} {N ps : List Str} {j k n : Nat} {m : GIn} (hk : c.K = K) (Fn : Fun K "__init__" qual st f fd) (S : FnScope N ps (defScope st)) (hn : ps.length = n + 1) (hl : ps.length ≤ N.length)
    (hbody : ∀ (cdv : Value) (A : Around) (outer : List Env) (s : Shared) (H : Hp) (E : XK), Room j (A.deeper (envOfC qual (defScope st) s.heap.objs.size f cdv)) → PSs (cxOf (L2.CX P w) P w K mg base N qual (defScope st) f cdv A outer s H E) (defBody st) (tIn c (fun cls d _ H' => E cls d H') k m)) :
    FnOk P w K mg base (L2.CX P w) (j + 1) f fd ps (SpI c n k (iniV N.length m)) := by
  refine Fn.okX S (fun vs H Q E h => by obtain ⟨x, dx, ws, F, as, e, l, _⟩ := h; subst e; rw [List.length_cons, l, hn]) fun cdv A outer s H vs Q E hr h => ⟨_, hbody cdv A outer s H E hr, ?_⟩
  obtain ⟨x, dx, ws, F, as, rfl, l, hx, hF, sub, mrk, rep, z⟩ := h
  obtain ⟨er0, _⟩ := er_enter (N := N) (er_self (a := x) sub mrk rep) (by rw [List.length_cons]; omega)
  have la : (SV.un :: fzs as).length = as.length + 1 := by simp [fzs]
  rw [la] at er0
  refine ⟨_, F, x, dx, er0, ?_, hF, hx, (m _).mono (fun r q σ' F' H' vs' g h1 h2 h3 => q vs' F' H' g h1 h2 h3) (fun e q σ' d F' H' g h1 h2 => q d F' H' g h1 h2) z⟩
  unfold L2.start
  rfl

/-! ### isinstance(x, C), C an own class -/
def isC (k : Nat) : PV → Option Bool
  | .ins j _ => if j = k then some true else none
  | v => (tyN v).map fun _ => false
def pIsC (k : Nat) (v : PV) : Option PV := (isC k v).map .bl
/-- an object is of its class, a built-in thing is not -/
structure KitC (K : PySem.W.Frag) (C : Addr) : Prop where
  own : PySem.W.kitOne K (.ref C) (.ref C) = some true
  ty : ∀ t, t ∈ ["NoneType", "bool", "int", "str", "tuple", "list", "dict"] → PySem.W.kitOne K (.type t) (.ref C) = some false
theorem tyN_mem {v : PV} {t : String} (h : tyN v = some t) : t ∈ ["NoneType", "bool", "int", "str", "tuple", "list", "dict"] := by
  cases v <;> first | (cases h; simp; done) | cases h
section
variable {c : Cn} {X : Cx} {W : WX} {pos p p2 : Pos} {a : Expr} {ga : GE}
theorem ve_isC {x y : Str} {k : Nat} {fI : Addr} {fs : List Str} (hk : c.K = X.K) (hg : Gl X x) (hm : X.mg x = none) (hv : bootBuiltins x = some (.builtin "isinstance")) (ha : PE X a (tE c W ga)) (hg2 : Gl X y) (hy : X.mg y = some (.ref (c.cA k))) (T : ClsT X.K (c.cA k) fI fs) (KC : KitC X.K (c.cA k))
    (hn : x ≠ "__name__" := by decide) (hdb : (x == ("__debug__" : Str)) = false := by decide) (hdb2 : (y == ("__debug__" : Str)) = false := by decide)
    (he : starEach [a, .Name y p2] X.env = (false, eval a X.env) :: starEach [.Name y p2] X.env := by rfl) (he2 : starEach [.Name y p2] X.env = (false, eval (.Name y p2) X.env) :: starEach [] X.env := by rfl)
    (hpl : (backTo pos (starEach [.Name y p2] X.env)).any (·.1) = false := by rfl) : PE X (.Call (.Name x p) [a, .Name y p2] [] pos) (tE c W (eOp1 (pIsC k) ga)) := by
  refine imp_PE (pe_callB call_isi hg hm hv (pa_cons ha (pa_cons (pe_glob (v := .ref (c.cA k)) hg2 hy rfl hdb2) pa_nil he2) he) hn hdb he hpl) fun σ H Q ⟨ρ, F, er, z⟩ => ?_
  refine tE_bind er z fun v ρ1 w F1 H1 st rep h1 => ?_
  obtain ⟨u, e, h2⟩ := lift_run h1
  obtain ⟨b, e1, rfl⟩ := Option.map_eq_some_iff.mp e
  have fin : ∀ t, TyOf X.K H1 w t → PySem.W.kitOne X.K t (.ref (c.cA k)) = some b → rIsi X.K [w, .ref (c.cA k)] H1 Q := fun t ty kt => ⟨w, .ref (c.cA k), t, .ref (c.cA k), b, rfl, .own _, .base ty, kt, h2 _ F1 H1 st (.bl b)⟩
  by_cases hi : ∃ j fs, v = .ins j fs
  · obtain ⟨j, fs, rfl⟩ := hi
    unfold isC at e1
    dsimp only at e1
    split at e1
    · rename_i ej
      cases e1
      subst ej
      cases rep with
      | ins h r => exact fin _ (.ins (st.2.sub _ _ h) T.c T.ha T.hn T.ht T.hm) KC.own
    · cases e1
  · have e2 : (tyN v).map (fun _ => false) = some b := by
      cases v with
      | ins j fs => exact absurd ⟨j, fs, rfl⟩ hi
      | _ => exact e1
    obtain ⟨t, e3, rfl⟩ := Option.map_eq_some_iff.mp e2
    exact fin _ (hk ▸ tyN_ok st.2.sub rep e3) (KC.ty t (tyN_mem e3))
end

/-! ### == of an object, by its class's __eq__ -/
def plainT (v : PV) : Bool := match v with
  | .non => true | .bl _ => true | .int _ => true | .str _ => true
  | _ => false
/-- the right side: an object of the same class, or a plain thing -/
def okR (k : Nat) (v : PV) : Bool := match v with
  | .ins j _ => decide (j = k)
  | v => plainT v
structure EqT (P : Program) (w : World) (K : PySem.W.Frag) (mg : Str → Option Value) (base : Heap) (c : Cn) (j k : Nat) (me : GF) : Prop where
  ex : ∃ f fd ps, PySem.W.findIn K (.ref (c.cA k)) "__eq__" = some (some (.ref f)) ∧ PySem.W.isFn K (.ref f) = true ∧ FnOk P w K mg base (L2.CX P w) j f fd ps (SpV c 2 me) ∧ Binds K fd ps []
  nf : ∀ t, t ∈ ["NoneType", "bool", "int", "str"] → PySem.W.notFirst K (c.cA k) (.type t) = true
def rEqI (c : Cn) (k : Nat) (me : GF) : R2 := fun x y H Q => ∃ F fs b, Rep c F x (.ins k fs) ∧ Rep c F y b ∧ Same F H ∧ (∀ p, c.B p → ∃ o, H p = some o) ∧ okR k b = true ∧
  (me [.fz (.ins k fs), .fz b]).run (fun r => ∃ z, r.1 = .bl z ∧ ∀ F' H', Grow F H F' H' → Q (.bl z) H') (fun _ => False)
section
variable {c : Cn} {X : Cx} {W : WX} {pos : Pos} {a b : Expr} {ga gb : GE}
theorem op_eqI {j k r : Nat} {me : GF} (N : EqT X.prog X.w X.K X.mg X.base c j k me) (hr : Room r X.A) (hj : j ≤ r) : OpR X (compareOp .Eq) (rEqI c k me) := by
  intro pins s σ H x y v u Q I rx ry hq
  obtain ⟨f, fd, ps, hs, hf, G, hb⟩ := N.ex
  obtain ⟨F, fs, b, r1, r2, sub, mrk, ok, z⟩ := hq
  have rr : Reps c F [x, y] [.ins k fs, b] := .cons r1 (.cons r2 .nil)
  cases r1 with
  | @ins a dx vs _ _ hF rf =>
    cases rx
    have ha := sub _ _ hF
    obtain ⟨mA, J, _⟩ := ins_get I.hok ha
    obtain ⟨od, J, _⟩ := J.look
    obtain ⟨m, hFr⟩ := I.fr
    show wpAny (model X.prog X.w) X.A (richCompare .Eq (.ref a) u) (EP X pins σ Q) X.xe s
    have sp : SpV c 2 me [.ref a, y] H (fun v H' => (∃ z, v = .bl z) ∧ Q v H') (fun _ _ _ => False) := by
      refine ⟨rfl, F, fzs [.ins k fs, b], rr.er sub mrk, (me _).mono (fun r q w F' H' st rp => ?_) (fun _ q => q.elim) z⟩
      obtain ⟨z, e, q⟩ := q
      rw [e] at rp
      cases rp
      exact ⟨⟨z, rfl⟩, q F' H' ⟨st.1.ff, fun p o h => (st.1.hh p o h fzs_own).1, st.2.sub, fun p o h => (st.1.hh p o h fzs_own).2⟩⟩
    have body : wpAny (model X.prog X.w) X.A (call (.ref f) [.ref a, u]) (PySem.W.CmpBack (EP X pins σ Q)) X.xe s := by
      have hl := G.len _ _ _ _ sp
      have rv : Vals [V.ref a, y] [Value.ref a, u] := .cons rfl (.cons ry .nil)
      refine wpAny_call (codeAny_mono (G.run X.A X.stack s H ⟨[.ref a, u], []⟩ [.ref a, u] [.ref a, y] _ _ (hr.mono hj) I.env0 (by simpa using hb s [.ref a, u] I.kIn (by simpa using hl)) rv sp) fun r s' hw => ?_)
      cases r with
      | error e => exact (passL pins σ H s e s' I hw : X.xe e s')
      | ok fl =>
        cases fl with
        | ret w =>
          obtain ⟨z, H', I', rz, ⟨k, ez⟩, qq⟩ := I.after hw
          subst ez
          cases rz
          exact ⟨.bl k, H', I', rfl, qq⟩
        | _ => exact hw.elim
    cases r2 with
    | @ins a2 dx2 vs2 j2 xs2 hF2 rf2 =>
      cases ry
      have e2 : j2 = k := of_decide_eq_true ok
      subst e2
      obtain ⟨mB, J', _⟩ := ins_get I.hok (sub _ _ hF2)
      obtain ⟨od', J', _⟩ := J'.look
      exact PySem.W.cmp_K (op := .Eq) (tb := .ref (c.cA j2)) hr.units0 hFr I.ok.mod.kin J J'.type (by simp [PySem.W.notFirst]) hs hf body
    | non =>
      cases ry
      exact PySem.W.cmp_K (op := .Eq) (tb := .type "NoneType") hr.units0 hFr I.ok.mod.kin J (PySem.W.Looks.of_pure rfl) (N.nf _ (by simp)) hs hf body
    | int i =>
      obtain ⟨tk, rfl⟩ := ry
      exact PySem.W.cmp_K (op := .Eq) (tb := .type "int") hr.units0 hFr I.ok.mod.kin J (PySem.W.Looks.of_pure rfl) (N.nf _ (by simp)) hs hf body
    | bl i =>
      cases ry
      exact PySem.W.cmp_K (op := .Eq) (tb := .type "bool") hr.units0 hFr I.ok.mod.kin J (PySem.W.Looks.of_pure rfl) (N.nf _ (by simp)) hs hf body
    | str i =>
      obtain ⟨tk, rfl⟩ := ry
      exact PySem.W.cmp_K (op := .Eq) (tb := .type "str") hr.units0 hFr I.ok.mod.kin J (PySem.W.Looks.of_pure rfl) (N.nf _ (by simp)) hs hf body
    | _ => cases ok
def eEqI (k : Nat) (me : GF) (ga gb : GE) : GE := fun ρ => (ga ρ).bind fun a => (gb a.2).bind fun b => match a.1 with
  | .ins j fs => if j = k ∧ okR k b.1 = true then (noE (me [.fz (.ins k fs), .fz b.1])).bind fun r => match r.1 with
    | .bl z => .ret (.bl z, b.2)
    | _ => .stuck
  else .stuck
  | _ => .stuck
theorem ve_eqI {j k r : Nat} {me : GF} (N : EqT X.prog X.w X.K X.mg X.base c j k me) (hr : Room r X.A) (hj : j ≤ r) (ha : PE X a (tE c W ga)) (hb : PE X b (tE c W gb)) (hm : behindInMarks .Eq b = false := by rfl) : PE X (.Compare a [.Eq] [b] pos) (tE c W (eEqI k me ga gb)) :=
  imp_PE (pe_cmpR (op_eqI N hr hj) ha hb hm) fun σ H Q ⟨ρ, F, er, z⟩ => tE_bind er z fun v ρ1 w F1 H1 st rep h1 => tE_bind st.2 h1 fun u ρ2 y F2 H2 st2 rep2 h2 => by
    have st12 := st.trans st2
    dsimp only at h2
    split at h2
    · rename_i j' fs
      split at h2
      · rename_i hc
        obtain ⟨rfl, ok⟩ := hc
        refine ⟨F2, fs, u, rep.mono st2.1.ff, rep2, st2.2.sub, st2.2.mrk, ok, (me _).mono (fun r q => ?_) (fun _ q => q) h2⟩
        obtain ⟨r1, r2⟩ := r
        cases r1 with
        | bl z => exact ⟨z, rfl, fun F' H' g => q (.bl z) F' H' (st12.trans (g.stpE st2.2)) (.bl z)⟩
        | _ => exact q.elim
      · exact h2.elim
    · exact h2.elim
end
end VL

set_option Elab.async false
set_option linter.all false
set_option maxRecDepth 100000
set_option maxHeartbeats 1000000
/-! VL, part 25: comprehensions with two for. -/
namespace VL
open PySem PySem.Spec PyProof.Rows L2
def lcLoop2 (is is1 : List Nat) (f : GG) (gt : GT) (gi1 : GI) (f1 : GG) (gt1 : GT) (ge : GE) : List PV → Env' → Wp XE' (List PV × Env')
  | [], ρ => .ret ([], ρ)
  | x :: xs, ρ => match f x (wipeE ρ is) with
    | none => .stuck
    | some ρ1 => (gt ρ1).bind fun b => if b.1 = true then (gi1 b.2).bind fun ys => if ys.1.length ≤ 4096 then (lcLoop is1 f1 gt1 ge ys.1 ys.2).bind fun r => (lcLoop2 is is1 f gt gi1 f1 gt1 ge xs r.2).bind fun q => .ret (r.1 ++ q.1, q.2) else .stuck
      else lcLoop2 is is1 f gt gi1 f1 gt1 ge xs b.2
def lLc2 (is is1 : List Nat) (gi : GI) (f : GG) (gt : GT) (gi1 : GI) (f1 : GG) (gt1 : GT) (ge : GE) : GL := fun ρ => (gi ρ).bind fun a => if a.1.length ≤ 4096 ∧ frozenAt a.2 is = true then (noEx (lcLoop2 is is1 f gt gi1 f1 gt1 ge a.1 a.2)).bind fun q => .ret (q.1, backE q.2 a.2 is) else .stuck
section
variable {c : Cn} {X : Cx} {W : WX}
/-- the outer loop behind i turns -/
structure LcO (c : Cn) (is is1 : List Nat) (f : GG) (gt : GT) (gi1 : GI) (f1 : GG) (gt1 : GT) (ge : GE) (σ : St) (ρ1 : Env') (F1 H1 : Hp) (D : Addr) (xs : List PV) (Z : List PV × Env' → Prop) (i : Nat) (H' : Hp) : Prop where
  ex : ∃ (acc : List V) (accP : List PV) (ρ' : Env') (F' : Hp), acc.length ≤ i * 4096 ∧ H' D = some (.lst acc) ∧ F' D = none ∧ ¬ Own (wipe σ is) (wipeE ρ' is) D ∧
    Stp F1 H1 (Own (wipe σ is) (wipeE ρ1 is)) F' H' (fun p => Own (wipe σ is) (wipeE ρ' is) p ∨ p = D) ∧ ER c F' H' (wipe σ is) (wipeE ρ' is) ∧ Reps c F' acc accP ∧
    (lcLoop2 is is1 f gt gi1 f1 gt1 ge (xs.drop i) ρ').run (fun q => Z (accP ++ q.1, q.2)) (fun _ => False)
/-- the inner loop behind j turns -/
structure LcJ (c : Cn) (is is1 : List Nat) (f : GG) (gt : GT) (gi1 : GI) (f1 : GG) (gt1 : GT) (ge : GE) (σ σ2 : St) (ρ1 : Env') (F1 H1 F2 : Hp) (D : Addr) (xs ys : List PV) (Z : List PV × Env' → Prop) (i j : Nat) (H' : Hp) : Prop where
  ex : ∃ (acc : List V) (accP : List PV) (ρ' : Env') (F' : Hp), acc.length ≤ i * 4096 + j ∧ H' D = some (.lst acc) ∧ F' D = none ∧ ¬ Own (wipe σ2 is1) (wipeE ρ' is1) D ∧ Same F2 F' ∧
    Stp F1 H1 (Own (wipe σ is) (wipeE ρ1 is)) F' H' (fun p => Own (wipe σ2 is1) (wipeE ρ' is1) p ∨ p = D) ∧ ER c F' H' (wipe σ2 is1) (wipeE ρ' is1) ∧ Reps c F' acc accP ∧
    ((lcLoop is1 f1 gt1 ge (ys.drop j) ρ').bind fun r => (lcLoop2 is is1 f gt gi1 f1 gt1 ge (xs.drop (i + 1)) r.2).bind fun q => .ret (r.1 ++ q.1, q.2)).run (fun q => Z (accP ++ q.1, q.2)) (fun _ => False)
theorem wipeE_sub {is is1 : List Nat} (h : ∀ i ∈ is1, i ∈ is) (ρ : Env') : wipeE (wipeE ρ is1) is = wipeE ρ is := by
  apply List.ext_getElem?
  intro j
  rw [wipeE_get, wipeE_get, wipeE_length, wipeE_get]
  by_cases hj : j ∈ is
  · rw [if_pos hj, if_pos hj]
  · rw [if_neg hj, if_neg hj, if_neg fun z => hj (h j z)]
theorem wipe_sub {is is1 : List Nat} (h : ∀ i ∈ is1, i ∈ is) (σ : St) : wipe (wipe σ is1) is = wipe σ is := wipe_eq (wipe_length σ is1) fun j hj => by rw [wipe_get, if_neg fun z => hj (h j z)]
/-- an inner turn -/
theorem lcJ_turn {is is1 : List Nat} {g1 : TG} {f f1 : GG} {gt gt1 : GT} {gi1 : GI} {ge : GE} {σ σ2 : St} {ρ1 : Env'} {F1 H1 F2 : Hp} {D : Addr} {xs ys : List PV} {Z : List PV × Env' → Prop} {i j : Nat} {H' : Hp} {J : It} (wk : Wk c J F2 ys) (hz : ys.length ≤ 4096) (hi : i < 4096) (hgf : TgOk c is1 g1 f1)
    (h : LcJ c is is1 f gt gi1 f1 gt1 ge σ σ2 ρ1 F1 H1 F2 D xs ys Z i j H') (hj : j < ys.length) : J.go j H' ∧ ∀ x Hy, J.yld j H' x Hy → g1 x (wipe σ2 is1) Hy fun σ3 H5 => wipe σ3 is1 = wipe σ2 is1 ∧ tT c W0 gt1 σ3 H5 fun b H6 =>
      if b = true then tE c W0 ge σ3 H6 fun y H7 => ∃ acc, H7 D = some (.lst acc) ∧ acc.length < sizeLine ∧ LcJ c is is1 f gt gi1 f1 gt1 ge σ σ2 ρ1 F1 H1 F2 D xs ys Z i (j + 1) (upd H7 D (.lst (acc ++ [y]))) else LcJ c is is1 f gt gi1 f1 gt1 ge σ σ2 ρ1 F1 H1 F2 D xs ys Z i (j + 1) H6 := by
  obtain ⟨acc, accP, ρ', F', hl, hD, hF, no, fs, st, er, rep, run⟩ := h.ex
  have hx : ys[j]? = some ys[j] := List.getElem?_eq_getElem hj
  obtain ⟨go, yl⟩ := wk.go j ys[j] H' hx (fs.trans er.sub)
  refine ⟨go, fun x Hy y => ?_⟩
  obtain ⟨Fy, gr, rx⟩ := yl x Hy F' fs er.sub y
  have ery := er.grow gr
  rw [List.drop_eq_getElem_cons hj] at run
  unfold lcLoop at run
  cases hf : f1 ys[j] (wipeE ρ' is1) with
  | none => rw [hf] at run; exact run.elim
  | some ρ2 =>
    rw [hf] at run
    dsimp only at run
    refine hgf Fy Hy (wipe σ2 is1) (wipeE ρ' is1) ρ2 x ys[j] _ ery rx hf fun σ3 er2 ow2 w2 nj => ?_
    have w3 : wipe σ3 is1 = wipe σ2 is1 := w2.trans (wipe_idem σ2 is1)
    refine ⟨w3, ?_⟩
    have hDy : Hy D = some (.lst acc) := gr.hh _ _ hD
    have hFy : Fy D = none := gr.nf _ _ hD hF
    have no2 : ¬ Own σ3 ρ2 D := fun z => no (ow2 D z)
    have stC : Stp F1 H1 (Own (wipe σ is) (wipeE ρ1 is)) Fy Hy (fun p => Own σ3 ρ2 p ∨ p = D) := (st.trans (gr.stp _)).less fun p z => z.imp (ow2 p) id
    refine tT_bind0 (k := fun b => ((if b.1 = true then (ge b.2).bind fun y => (lcLoop is1 f1 gt1 ge (ys.drop (j + 1)) y.2).bind fun r => .ret (y.1 :: r.1, r.2) else lcLoop is1 f1 gt1 ge (ys.drop (j + 1)) b.2 : Wp XE' (List PV × Env')).bind fun r => (lcLoop2 is is1 f gt gi1 f1 gt1 ge (xs.drop (i + 1)) r.2).bind fun q => .ret (r.1 ++ q.1, q.2))) er2 run fun b ρ3 F3 H3 st3 run3 => ?_
    have d3 := st3.1.hh D _ hDy no2
    have no3 : ¬ Own σ3 ρ3 D := fun z => (st3.1.ow D z).elim no2 fun q => by rw [hDy] at q; cases q
    have st3' := stC.trans (st3.1.add D)
    have noF : ∀ {ρ : Env'}, ¬ Own σ3 ρ D → ¬ Own (wipe σ2 is1) (wipeE ρ is1) D := fun {ρ} n z => n (own_wipe (vs := is1) (by rw [w3]; exact z))
    have f3 := fs.trans (gr.ff.trans st3.1.ff)
    cases b with
    | false =>
      simp only [Bool.false_eq_true, if_false] at run3 ⊢
      exact ⟨acc, accP, ρ3, F3, by omega, d3.1, d3.2 hFy, noF no3, f3, st3'.less fun p z => z.imp (fun z => own_wipe (vs := is1) (by rw [w3]; exact z)) id, by rw [← w3]; exact st3.2.wipe is1, rep.mono (gr.ff.trans st3.1.ff), run3⟩
    | true =>
      simp only [if_true] at run3 ⊢
      refine tE_bind0 (k := fun y => (((lcLoop is1 f1 gt1 ge (ys.drop (j + 1)) y.2).bind fun r => (.ret (y.1 :: r.1, r.2) : Wp XE' (List PV × Env'))).bind fun r => (lcLoop2 is is1 f gt gi1 f1 gt1 ge (xs.drop (i + 1)) r.2).bind fun q => .ret (r.1 ++ q.1, q.2))) st3.2 run3 fun yv ρ4 y F4 H4 st4 r4 run4 => ?_
      have d4 := st4.1.hh D _ d3.1 no3
      have no4 : ¬ Own σ3 ρ4 D := fun z => (st4.1.ow D z).elim no3 fun q => by rw [d3.1] at q; cases q
      have lt : acc.length < 16777216 := by
        have : (i + 1) * 4096 ≤ 4096 * 4096 := Nat.mul_le_mul_right _ hi
        omega
      refine ⟨acc, d4.1, by rw [sizeLine_eq]; exact lt, ?_⟩
      have hF4 : F4 D = none := d4.2 (d3.2 hFy)
      have er4 : ER c F4 H4 (wipe σ2 is1) (wipeE ρ4 is1) := by rw [← w3]; exact st4.2.wipe is1
      refine ⟨acc ++ [y], accP ++ [yv], ρ4, F4, by rw [List.length_append]; simp; omega, upd_same, hF4, noF no4, f3.trans st4.1.ff, ?_, er_upd er4 hF4 (noF no4), (rep.mono (gr.ff.trans (st3.1.ff.trans st4.1.ff))).append (.cons r4 .nil), ?_⟩
      · exact ((st3'.trans (st4.1.add D)).trans (Stp.put (S := Own σ3 ρ4) (o' := .lst (acc ++ [y])) d4.1)).less fun p z => z.imp (fun z => own_wipe (vs := is1) (by rw [w3]; exact z)) id
      · refine Wp.mono (lcLoop is1 f1 gt1 ge (ys.drop (j + 1)) ρ4) (fun q z => ?_) (fun _ z => z) run4
        refine Wp.mono (lcLoop2 is is1 f gt gi1 f1 gt1 ge (xs.drop (i + 1)) q.2) (fun q2 z2 => ?_) (fun _ z => z) z
        have z' : Z (accP ++ ((yv :: q.1) ++ q2.1), q2.2) := z2
        show Z ((accP ++ [yv]) ++ (q.1 ++ q2.1), q2.2)
        rw [List.append_assoc]
        exact z'

theorem lcO_turn {is is1 : List Nat} {g g1 : TG} {f f1 : GG} {gt gt1 : GT} {gi1 : GI} {ge : GE} {σ : St} {ρ1 : Env'} {F1 H1 : Hp} {D : Addr} {xs : List PV} {Z : List PV × Env' → Prop} {i : Nat} {H' : Hp} {J : It} (wk : Wk c J F1 xs) (hz : xs.length ≤ 4096) (sub : ∀ i ∈ is1, i ∈ is) (hgf : TgOk c is g f) (hgf1 : TgOk c is1 g1 f1)
    (h : LcO c is is1 f gt gi1 f1 gt1 ge σ ρ1 F1 H1 D xs Z i H') (hi : i < xs.length) : J.go i H' ∧ ∀ x Hy, J.yld i H' x Hy → g x (wipe σ is) Hy fun σ2 H2 => wipe σ2 is = wipe σ is ∧ tT c W0 gt σ2 H2 fun b H3 =>
      if b = true then tI c W0 gi1 σ2 H3 fun J1 H4 => ∃ W1 : Nat → Nat → Hp → Prop, (∃ m, W1 0 m H4) ∧ ∀ j k H, W1 j k H →
        (J1.stop j H ∧ LcO c is is1 f gt gi1 f1 gt1 ge σ ρ1 F1 H1 D xs Z (i + 1) H) ∨ (J1.go j H ∧ ∃ Nx1 : Hp → Prop, (∀ H', Nx1 H' → ∃ k', k' < k ∧ W1 (j + 1) k' H') ∧ ∀ x H', J1.yld j H x H' → g1 x (wipe σ2 is1) H' fun σ3 H5 => wipe σ3 is1 = wipe σ2 is1 ∧ tT c W0 gt1 σ3 H5 fun b H6 =>
          if b = true then tE c W0 ge σ3 H6 fun y H7 => ∃ acc, H7 D = some (.lst acc) ∧ acc.length < sizeLine ∧ Nx1 (upd H7 D (.lst (acc ++ [y]))) else Nx1 H6)
      else LcO c is is1 f gt gi1 f1 gt1 ge σ ρ1 F1 H1 D xs Z (i + 1) H3 := by
  obtain ⟨acc, accP, ρ', F', hl, hD, hF, no, st, er, rep, run⟩ := h.ex
  have hx : xs[i]? = some xs[i] := List.getElem?_eq_getElem hi
  have same : Same F1 H' := st.ff.trans er.sub
  obtain ⟨go, yl⟩ := wk.go i xs[i] H' hx same
  refine ⟨go, fun x Hy y => ?_⟩
  obtain ⟨Fy, gr, rx⟩ := yl x Hy F' st.ff er.sub y
  have ery := er.grow gr
  rw [List.drop_eq_getElem_cons hi] at run
  unfold lcLoop2 at run
  cases hf : f xs[i] (wipeE ρ' is) with
  | none => rw [hf] at run; exact run.elim
  | some ρ2 =>
    rw [hf] at run
    dsimp only at run
    refine hgf Fy Hy (wipe σ is) (wipeE ρ' is) ρ2 x xs[i] _ ery rx hf fun σ2 er2 ow2 w2 nj => ?_
    have w3 : wipe σ2 is = wipe σ is := w2.trans (wipe_idem σ is)
    refine ⟨w3, ?_⟩
    have hDy : Hy D = some (.lst acc) := gr.hh _ _ hD
    have hFy : Fy D = none := gr.nf _ _ hD hF
    have no2 : ¬ Own σ2 ρ2 D := fun z => no (ow2 D z)
    have stC : Stp F1 H1 (Own (wipe σ is) (wipeE ρ1 is)) Fy Hy (fun p => Own σ2 ρ2 p ∨ p = D) := (st.trans (gr.stp _)).less fun p z => z.imp (ow2 p) id
    refine tT_bind0 er2 run fun b ρ3 F3 H3 st3 run3 => ?_
    have d3 := st3.1.hh D _ hDy no2
    have no3 : ¬ Own σ2 ρ3 D := fun z => (st3.1.ow D z).elim no2 fun q => by rw [hDy] at q; cases q
    have st3' := stC.trans (st3.1.add D)
    have noF : ∀ {ρ : Env'}, ¬ Own σ2 ρ D → ¬ Own (wipe σ is) (wipeE ρ is) D := fun {ρ} n z => n (own_wipe (vs := is) (by rw [w3]; exact z))
    cases b with
    | false =>
      simp only [Bool.false_eq_true, if_false] at run3 ⊢
      exact ⟨acc, accP, ρ3, F3, by omega, d3.1, d3.2 hFy, noF no3, st3'.less fun p z => z.imp (fun z => own_wipe (vs := is) (by rw [w3]; exact z)) id, by rw [← w3]; exact st3.2.wipe is, rep.mono (gr.ff.trans st3.1.ff), run3⟩
    | true =>
      simp only [if_true] at run3 ⊢
      refine ⟨ρ3, F3, st3.2, (gi1 ρ3).mono (fun r run4 J1 F4 H4 st4 wk4 => ?_) (fun _ z => z.elim) run3⟩
      obtain ⟨ys, ρ4⟩ := r
      have run5 : (if ys.length ≤ 4096 then (lcLoop is1 f1 gt1 ge ys ρ4).bind fun r => (lcLoop2 is is1 f gt gi1 f1 gt1 ge (xs.drop (i + 1)) r.2).bind fun q => .ret (r.1 ++ q.1, q.2) else .stuck : Wp XE' (List PV × Env')).run (fun q => Z (accP ++ q.1, q.2)) (fun _ => False) := run4
      by_cases hy : ys.length ≤ 4096
      · rw [if_pos hy] at run5
        have d4 := st4.1.hh D _ d3.1 no3
        have no4 : ¬ Own σ2 ρ4 D := fun z => (st4.1.ow D z).elim no3 fun q => by rw [d3.1] at q; cases q
        have st4' := st3'.trans (st4.1.add D)
        have start : LcJ c is is1 f gt gi1 f1 gt1 ge σ σ2 ρ1 F1 H1 F4 D xs ys Z i 0 H4 :=
          ⟨acc, accP, ρ4, F4, by omega, d4.1, d4.2 (d3.2 hFy), fun z => no4 (own_wipe z), Same.refl F4, st4'.less fun p z => z.imp own_wipe id, st4.2.wipe is1, rep.mono (gr.ff.trans (st3.1.ff.trans st4.1.ff)), run5⟩
        refine ⟨fun j k H => k = ys.length - j ∧ j ≤ ys.length ∧ LcJ c is is1 f gt gi1 f1 gt1 ge σ σ2 ρ1 F1 H1 F4 D xs ys Z i j H, ⟨_, rfl, Nat.zero_le _, start⟩, fun j k H hW => ?_⟩
        obtain ⟨rfl, hle, hJ⟩ := hW
        by_cases hj : j < ys.length
        · obtain ⟨go1, turn1⟩ := lcJ_turn wk4 hy (by omega) hgf1 hJ hj
          exact .inr ⟨go1, fun H' => LcJ c is is1 f gt gi1 f1 gt1 ge σ σ2 ρ1 F1 H1 F4 D xs ys Z i (j + 1) H', fun H' n => ⟨ys.length - (j + 1), by omega, rfl, hj, n⟩, turn1⟩
        · have e : j = ys.length := by omega
          subst e
          obtain ⟨acc5, accP5, ρ5, F5, hl5, hD5, hF5, no5, fs5, st5, er5, rep5, run6⟩ := hJ.ex
          rw [List.drop_length] at run6
          have run7 : (lcLoop2 is is1 f gt gi1 f1 gt1 ge (xs.drop (i + 1)) ρ5).run (fun q => Z (accP5 ++ ([] ++ q.1), q.2)) (fun _ => False) := run6
          have erw : ER c F5 H (wipe σ is) (wipeE ρ5 is) := by
            have q := er5.wipe is
            rw [wipe_sub sub, wipeE_sub sub, w3] at q
            exact q
          have oww : ∀ p, Own (wipe σ is) (wipeE ρ5 is) p → Own (wipe σ2 is1) (wipeE ρ5 is1) p := fun p z => own_wipe (vs := is) (by rw [wipe_sub sub, wipeE_sub sub, w3]; exact z)
          have hb : acc5.length ≤ (i + 1) * 4096 := by rw [Nat.succ_mul]; omega
          exact .inl ⟨wk4.stop H (fs5.trans er5.sub), acc5, accP5, ρ5, F5, hb, hD5, hF5, fun z => no5 (oww D z), st5.less fun p z => z.imp (oww p) id, erw, rep5, run7⟩
      · rw [if_neg hy] at run5
        exact run5.elim
theorem vl_lc2 {elt tg iter tg1 iter1 : Expr} {ifs ifs1 : List Expr} {scope : Scope} {own : List (Str × Nat)} {is is1 : List Nat} {pos : Pos} {gi gi1 : GI} {g g1 : TG} {f f1 : GG} {gt gt1 : GT} {ge : GE} (hc : X.calm = true) (hN : X.N.Nodup) (hi : PI X tg iter (tI c W gi)) (ok : BlkOk X.N X.env.scope scope own) (hv : ∀ i ∈ is1, i ∈ own.map (·.2))
    (hg : ∀ (s : Shared) (H : Hp) (C : Addr) (cl : List (Str × Addr)) (fp : List Addr), PG (X.blk s H scope (compEnvC scope cl C X.env) fp) tg g) (hgf : TgOk c is g f)
    (ht : ∀ (s : Shared) (H : Hp) (C : Addr) (cl : List (Str × Addr)) (fp : List Addr), PTs (X.blk s H scope (compEnvC scope cl C X.env) fp) ifs (tT c W0 gt))
    (hi1 : ∀ (s : Shared) (H : Hp) (C : Addr) (cl : List (Str × Addr)) (fp : List Addr), PI (X.blk s H scope (compEnvC scope cl C X.env) fp) tg1 iter1 (tI c W0 gi1))
    (hg1 : ∀ (s : Shared) (H : Hp) (C : Addr) (cl : List (Str × Addr)) (fp : List Addr), PG (X.blk s H scope (compEnvC scope cl C X.env) fp) tg1 g1) (hgf1 : TgOk c is1 g1 f1)
    (ht1 : ∀ (s : Shared) (H : Hp) (C : Addr) (cl : List (Str × Addr)) (fp : List Addr), PTs (X.blk s H scope (compEnvC scope cl C X.env) fp) ifs1 (tT c W0 gt1))
    (he : ∀ (s : Shared) (H : Hp) (C : Addr) (cl : List (Str × Addr)) (fp : List Addr), PE (X.blk s H scope (compEnvC scope cl C X.env) fp) elt (tE c W0 ge)) (his : own.map (·.2) = is := by rfl) (hs : ∀ x, foldedSetIterable iter X.env x = pure x := by intro _; rfl) (hs1 : ∀ env x, foldedSetIterable iter1 env x = pure x := by intro _ _; rfl) :
    PE X (.ListComp elt [⟨tg, iter, ifs, 0⟩, ⟨tg1, iter1, ifs1, 0⟩] scope pos) (tL c W (lLc2 is is1 gi f gt gi1 f1 gt1 ge)) := by
  subst his
  refine imp_PE (pe_lc2 hc hN hi ok hv hg ht hi1 hg1 ht1 he hs hs1) fun σ H Q ⟨ρ, F, er, z⟩ => ?_
  generalize own.map (·.2) = is at *
  refine ⟨ρ, F, er, (gi ρ).mono (fun r h1 J F1 H1 st wk D hD => ?_) (fun _ q => q) z⟩
  dsimp only at h1
  by_cases hz : r.1.length ≤ 4096 ∧ frozenAt r.2 is = true
  · rw [if_pos hz] at h1
    have h2 : (lcLoop2 is is1 f gt gi1 f1 gt1 ge r.1 r.2).run (fun q => OkL c σ ρ F H Q (q.1, backE q.2 r.2 is)) (fun _ => False) := h1
    have hFD : F1 D = none := st.2.sub.free hD
    have g0 := (upd_growH (o := .lst []) st.2.sub hD).stp (Own (wipe σ is) (wipeE r.2 is))
    have no0 : ¬ Own (wipe σ is) (wipeE r.2 is) D := not_own_new (st.2.wipe is) hD
    have start : LcO c is is1 f gt gi1 f1 gt1 ge σ r.2 F1 H1 D r.1 (fun q => OkL c σ ρ F H Q (q.1, backE q.2 r.2 is)) 0 (upd H1 D (.lst [])) :=
      ⟨[], [], r.2, F1, Nat.zero_le _, upd_same, hFD, no0, ⟨g0.ff, g0.hh, g0.th, fun p q => q.elim .inl fun e => .inr (by rw [e]; exact hD)⟩, er_upd (st.2.wipe is) hFD no0, .nil, h2⟩
    refine ⟨fun i m H' => m = r.1.length - i ∧ i ≤ r.1.length ∧ LcO c is is1 f gt gi1 f1 gt1 ge σ r.2 F1 H1 D r.1 (fun q => OkL c σ ρ F H Q (q.1, backE q.2 r.2 is)) i H', ⟨_, rfl, Nat.zero_le _, start⟩, fun i m H' hW => ?_⟩
    obtain ⟨rfl, hle, h⟩ := hW
    by_cases hi : i < r.1.length
    · obtain ⟨go, turn⟩ := lcO_turn wk hz.1 hv hgf hgf1 h hi
      exact .inr ⟨go, fun H' => LcO c is is1 f gt gi1 f1 gt1 ge σ r.2 F1 H1 D r.1 (fun q => OkL c σ ρ F H Q (q.1, backE q.2 r.2 is)) (i + 1) H', fun H' n => ⟨r.1.length - (i + 1), by omega, rfl, hi, n⟩, turn⟩
    · have e : i = r.1.length := by omega
      subst e
      obtain ⟨acc, accP, ρ', F', hl, hDv, hF, no, st', er', rep, run⟩ := h.ex
      rw [List.drop_length] at run
      have q : OkL c σ ρ F H Q (accP ++ [], backE ρ' r.2 is) := run
      rw [List.append_nil] at q
      obtain ⟨er2, ow2⟩ := er_back' st.2 st'.ff er' hz.2
      rw [backE_wipe] at er2 ow2
      refine .inl ⟨wk.stop H' (st'.ff.trans er'.sub), q D acc F' H' ⟨st.1.trans ((st'.more fun p z => own_wipe z).less fun p z => .inl (ow2 p z)), er2⟩ ?_ hF hDv (fun z => no (ow2 D z)) rep⟩
      cases e : H D with
      | none => rfl
      | some o =>
        obtain ⟨o', e'⟩ := st.1.th D o e
        rw [hD] at e'
        cases e'
  · rw [if_neg hz] at h1
    exact h1.elim
end
end VL

set_option Elab.async false
set_option linter.all false
set_option maxRecDepth 100000
set_option maxHeartbeats 1000000
/-! VL, part 26: name = {k: v for ..}. -/
namespace VL
open PySem PySem.Spec PyProof.Rows L2
section
variable {X : Cx}
theorem sw_dict {kx vx : Expr} {gs : List Comprehension} {scope : Scope} {pos py : Pos} {y : Str} {l : Nat} {env : Env} (hk : env.scope.kind = .function) (hy : env.scope.names.lookup y = some .local) (hl : (py.line == pos.line) = true)
    (ha : (scope.names.any fun (n, k) => n == y && (k == .local || k == .cell)) = false) : swapsWith (.DictComp kx vx gs scope pos) (some (.Name y py)) l env = pure true := by
  have h1 : env.kindOf y = some .local := hy
  have h2 : env.blockKind = .function := by unfold Env.blockKind; rw [hk]; rfl
  unfold swapsWith
  simp only [h2, h1, ha, Expr.pos, hl]; rfl
theorem ps_setD {i : Nat} {y : Str} {py : Pos} {kx vx tg iter : Expr} {ifs : List Expr} {scope : Scope} {own : List (Str × Nat)} {pos spos : Pos} {wi : TI} {g : TG} {tt : TT} {tk tv : TE} (hc : X.calm = true) (hN : X.N.Nodup) (hy : X.N[i]? = some y) (hyl : X.env.scope.names.lookup y = some .local)
    (hsw : swapsWith (.DictComp kx vx [⟨tg, iter, ifs, 0⟩] scope pos) (some (.Name y py)) spos.line X.env = pure true) (hi : PI X tg iter wi) (ok : BlkOk X.N X.env.scope scope own)
    (hg : ∀ (s : Shared) (H : Hp) (C : Addr) (cl : List (Str × Addr)) (fp : List Addr), PG (X.blk s H scope (compEnvC scope cl C X.env) fp) tg g) (ht : ∀ (s : Shared) (H : Hp) (C : Addr) (cl : List (Str × Addr)) (fp : List Addr), PTs (X.blk s H scope (compEnvC scope cl C X.env) fp) ifs tt)
    (hk : ∀ (s : Shared) (H : Hp) (C : Addr) (cl : List (Str × Addr)) (fp : List Addr), PE (X.blk s H scope (compEnvC scope cl C X.env) fp) kx tk)
    (he : ∀ (s : Shared) (H : Hp) (C : Addr) (cl : List (Str × Addr)) (fp : List Addr), PE (X.blk s H scope (compEnvC scope cl C X.env) fp) vx tv) (hs : ∀ x, foldedSetIterable iter X.env x = pure x := by intro _; rfl) :
    PS X (.Assign [.Name y py] (.DictComp kx vx [⟨tg, iter, ifs, 0⟩] scope pos) spos) (tAsg (tDc wi g tt tk tv (own.map (·.2))) (gName i)) := ⟨fun pins s σ H D I h => by
  rw [exec_Assign_Name_used _ _ _ _ hsw]
  refine wpAny_bind (wpAny_standAt (wpAny_bind ?_)); show wpAny _ X.A (do let _ ← comprehension (.DictComp kx vx [⟨tg, iter, ifs, 0⟩] scope pos) scope X.env (firstIterPos [⟨tg, iter, ifs, 0⟩] pos) newDict false (eval iter X.env) (some (assign (.Name y py) X.env))) _ _ s
  have h' : tDc wi g tt tk tv (own.map (·.2)) σ H (fun x H1 => gName i x σ H1 D.nx) := h
  refine wpAny_bind (thn (dc_core (Qf := fun _ s' => SP X pins D .next s') hc hN I hi ok hg ht hk he hs h' fun L C s' m H' I' q hn f => ?_) fun _ s' hq => wpAny_pure (wpAny_pure hq))
  show wpAny _ _ (assign (.Name y py) X.env (.ref L)) _ _ _
  obtain ⟨f0, f1, f2, f3, f4, f5⟩ := f
  refine wpAny_assign_Name (store_ok2 (v := V.ref L) I' hN hy (.inl hyl) rfl (fun s2 I2 ⟨a, sb, ha⟩ => ⟨m, hn.sameBut sb (ha.elim (fun z => by rw [z]; exact f1) fun z e => f4 y a z e.symm), fun h3 sb3 => ⟨_, H', I2.turned (t' := s2.toks) (fun b o hb e => (sb3.2 b hb).trans e) f0 f1 f3 f4 f5, q⟩⟩) (.inr hyl))⟩
end
/-! ### its reading -/
def putP (kvs : List (Key × PV)) (k : Key) (v : PV) : List (Key × PV) := if (kvs.any fun kv => decide (kv.1 = k)) = true then kvs.map (fun kv => if kv.1 = k then (kv.1, v) else kv) else kvs ++ [(k, v)]
theorem RepD.any {c : Cn} {F : Hp} (k : Key) : ∀ {vs : List (Key × V)} {xs : List (Key × PV)}, RepD c F vs xs → (vs.any fun kv => decide (kv.1 = k)) = xs.any fun kv => decide (kv.1 = k)
  | _, _, .nil => rfl
  | _, _, .cons _ r => by rw [List.any_cons, List.any_cons, RepD.any k r]
theorem RepD.mapK {c : Cn} {F : Hp} {k : Key} {w : V} {v : PV} (h : Rep c F w v) : ∀ {vs : List (Key × V)} {xs : List (Key × PV)}, RepD c F vs xs → RepD c F (vs.map fun kv => if kv.1 = k then (kv.1, w) else kv) (xs.map fun kv => if kv.1 = k then (kv.1, v) else kv)
  | _, _, .nil => .nil
  | _, _, @RepD.cons _ _ j u x vs xs g r => by
    rw [List.map_cons, List.map_cons]
    by_cases e : j = k
    · simp only [e, if_true]
      exact .cons h (RepD.mapK h r)
    · simp only [e, if_false]
      exact .cons g (RepD.mapK h r)
theorem RepD.append {c : Cn} {F : Hp} {k : Key} {w : V} {v : PV} (h : Rep c F w v) : ∀ {vs : List (Key × V)} {xs : List (Key × PV)}, RepD c F vs xs → RepD c F (vs ++ [(k, w)]) (xs ++ [(k, v)])
  | _, _, .nil => .cons h .nil
  | _, _, .cons g r => .cons g (RepD.append h r)
theorem RepD.put {c : Cn} {F : Hp} {k : Key} {w : V} {v : PV} (h : Rep c F w v) {vs : List (Key × V)} {xs : List (Key × PV)} (r : RepD c F vs xs) : RepD c F (putK vs k w) (putP xs k v) := by
  unfold putK putP
  rw [r.any k]
  split
  · exact r.mapK h
  · exact r.append h
theorem putK_len (vs : List (Key × V)) (k : Key) (w : V) : (putK vs k w).length ≤ vs.length + 1 := by
  unfold putK
  split
  · rw [List.length_map]; omega
  · rw [List.length_append]; simp
def dcLoop (is : List Nat) (f : GG) (gt : GT) (gk gv : GE) : List PV → List (Key × PV) → Env' → Wp XE' (List (Key × PV) × Env')
  | [], kvs, ρ => .ret (kvs, ρ)
  | x :: xs, kvs, ρ => match f x (wipeE ρ is) with
    | none => .stuck
    | some ρ1 => (gt ρ1).bind fun b => if b.1 = true then (gk b.2).bind fun y => match keyP y.1 with
        | some k => (gv y.2).bind fun z => dcLoop is f gt gk gv xs (putP kvs k z.1) z.2
        | none => .stuck
      else dcLoop is f gt gk gv xs kvs b.2
def eDc (is : List Nat) (gi : GI) (f : GG) (gt : GT) (gk gv : GE) : GE := fun ρ => (gi ρ).bind fun a => if a.1.length ≤ sizeLine ∧ frozenAt a.2 is = true then (noEx (dcLoop is f gt gk gv a.1 [] a.2)).bind fun q => .ret (.dic none q.1, backE q.2 a.2 is) else .stuck
section
variable {c : Cn} {X : Cx} {W : WX} {pn : Nat → Bool}
structure DcAt (c : Cn) (is : List Nat) (f : GG) (gt : GT) (gk gv : GE) (σ : St) (ρ1 : Env') (F1 H1 : Hp) (D : Addr) (xs : List PV) (Z : List (Key × PV) × Env' → Prop) (i : Nat) (H' : Hp) : Prop where
  ex : ∃ (acc : List (Key × V)) (accP : List (Key × PV)) (ρ' : Env') (F' : Hp), acc.length ≤ i ∧ H' D = some (.dK acc) ∧ F' D = none ∧ ¬ Own (wipe σ is) (wipeE ρ' is) D ∧
    Stp F1 H1 (Own (wipe σ is) (wipeE ρ1 is)) F' H' (fun p => Own (wipe σ is) (wipeE ρ' is) p ∨ p = D) ∧ ER c F' H' (wipe σ is) (wipeE ρ' is) ∧ RepD c F' acc accP ∧
    (dcLoop is f gt gk gv (xs.drop i) accP ρ').run Z (fun _ => False)
theorem dc_turn {is : List Nat} {g : TG} {f : GG} {gt : GT} {gk gv : GE} {σ : St} {ρ1 : Env'} {F1 H1 : Hp} {D : Addr} {xs : List PV} {Z : List (Key × PV) × Env' → Prop} {i : Nat} {H' : Hp} {J : It} (wk : Wk c J F1 xs) (hz : xs.length ≤ sizeLine) (hgf : TgOk c is g f)
    (h : DcAt c is f gt gk gv σ ρ1 F1 H1 D xs Z i H') (hi : i < xs.length) : J.go i H' ∧ ∀ x Hy, J.yld i H' x Hy → g x (wipe σ is) Hy fun σ2 H2 => wipe σ2 is = wipe σ is ∧ tT c W0 gt σ2 H2 fun b H3 =>
      if b = true then tE c W0 gk σ2 H3 fun y H4 => tE c W0 gv σ2 H4 fun z H5 => ∃ kvs k, y = kV k ∧ H5 D = some (.dK kvs) ∧ kvs.length < sizeLine ∧ DcAt c is f gt gk gv σ ρ1 F1 H1 D xs Z (i + 1) (upd H5 D (.dK (putK kvs k z))) else DcAt c is f gt gk gv σ ρ1 F1 H1 D xs Z (i + 1) H3 := by
  obtain ⟨acc, accP, ρ', F', hl, hD, hF, no, st, er, rep, run⟩ := h.ex
  have hx : xs[i]? = some xs[i] := List.getElem?_eq_getElem hi
  obtain ⟨go, yl⟩ := wk.go i xs[i] H' hx (st.ff.trans er.sub)
  refine ⟨go, fun x Hy y => ?_⟩
  obtain ⟨Fy, gr, rx⟩ := yl x Hy F' st.ff er.sub y
  have ery := er.grow gr
  rw [List.drop_eq_getElem_cons hi] at run
  unfold dcLoop at run
  cases hf : f xs[i] (wipeE ρ' is) with
  | none => rw [hf] at run; exact run.elim
  | some ρ2 =>
    rw [hf] at run
    dsimp only at run
    refine hgf Fy Hy (wipe σ is) (wipeE ρ' is) ρ2 x xs[i] _ ery rx hf fun σ2 er2 ow2 w2 nj => ?_
    have w3 : wipe σ2 is = wipe σ is := w2.trans (wipe_idem σ is)
    refine ⟨w3, ?_⟩
    have hDy : Hy D = some (.dK acc) := gr.hh _ _ hD
    have hFy : Fy D = none := gr.nf _ _ hD hF
    have no2 : ¬ Own σ2 ρ2 D := fun z => no (ow2 D z)
    have stC : Stp F1 H1 (Own (wipe σ is) (wipeE ρ1 is)) Fy Hy (fun p => Own σ2 ρ2 p ∨ p = D) := (st.trans (gr.stp _)).less fun p z => z.imp (ow2 p) id
    refine tT_bind0 er2 run fun b ρ3 F3 H3 st3 run3 => ?_
    have d3 := st3.1.hh D _ hDy no2
    have no3 : ¬ Own σ2 ρ3 D := fun z => (st3.1.ow D z).elim no2 fun q => by rw [hDy] at q; cases q
    have st3' := stC.trans (st3.1.add D)
    have noF : ∀ {ρ : Env'}, ¬ Own σ2 ρ D → ¬ Own (wipe σ is) (wipeE ρ is) D := fun {ρ} n z => n (own_wipe (vs := is) (by rw [w3]; exact z))
    cases b with
    | false =>
      simp only [Bool.false_eq_true, if_false] at run3 ⊢
      exact ⟨acc, accP, ρ3, F3, by omega, d3.1, d3.2 hFy, noF no3, st3'.less fun p z => z.imp (fun z => own_wipe (vs := is) (by rw [w3]; exact z)) id, by rw [← w3]; exact st3.2.wipe is, rep.mono (gr.ff.trans st3.1.ff), run3⟩
    | true =>
      simp only [if_true] at run3 ⊢
      refine tE_bind0 st3.2 run3 fun kv ρ4 y F4 H4 st4 r4 run4 => ?_
      have d4 := st4.1.hh D _ d3.1 no3
      have no4 : ¬ Own σ2 ρ4 D := fun z => (st4.1.ow D z).elim no3 fun q => by rw [d3.1] at q; cases q
      cases hk : keyP kv with
      | none =>
        have run5 : (match keyP kv with
          | some k => (gv ρ4).bind fun z => dcLoop is f gt gk gv (xs.drop (i + 1)) (putP accP k z.1) z.2
          | none => .stuck : Wp XE' (List (Key × PV) × Env')).run Z (fun _ => False) := run4
        rw [hk] at run5
        exact run5.elim
      | some k =>
        have run5 : (match keyP kv with
          | some k => (gv ρ4).bind fun z => dcLoop is f gt gk gv (xs.drop (i + 1)) (putP accP k z.1) z.2
          | none => .stuck : Wp XE' (List (Key × PV) × Env')).run Z (fun _ => False) := run4
        rw [hk] at run5
        refine tE_bind0 st4.2 run5 fun zv ρ5 z F5 H5 st5 r5 run6 => ?_
        have d5 := st5.1.hh D _ d4.1 no4
        have no5 : ¬ Own σ2 ρ5 D := fun z => (st5.1.ow D z).elim no4 fun q => by rw [d4.1] at q; cases q
        refine ⟨acc, k, keyP_ok r4 hk, d5.1, by omega, ?_⟩
        have hF5 : F5 D = none := d5.2 (d4.2 (d3.2 hFy))
        have er5 : ER c F5 H5 (wipe σ is) (wipeE ρ5 is) := by rw [← w3]; exact st5.2.wipe is
        have rep5 := rep.mono (gr.ff.trans (st3.1.ff.trans (st4.1.ff.trans st5.1.ff)))
        refine ⟨putK acc k z, putP accP k zv, ρ5, F5, by have := putK_len acc k z; omega, upd_same, hF5, noF no5, ?_, er_upd er5 hF5 (noF no5), rep5.put r5, run6⟩
        exact (((st3'.trans (st4.1.add D)).trans (st5.1.add D)).trans (Stp.put (S := Own σ2 ρ5) (o' := .dK (putK acc k z)) d5.1)).less fun p z => z.imp (fun z => own_wipe (vs := is) (by rw [w3]; exact z)) id
theorem dc_read {is : List Nat} {gi : GI} {g : TG} {f : GG} {gt : GT} {gk gv : GE} (hgf : TgOk c is g f) {σ : St} {H : Hp} {Q : VK} (z : tE c W (eDc is gi f gt gk gv) σ H Q) : tDc (tI c W gi) g (tT c W0 gt) (tE c W0 gk) (tE c W0 gv) is σ H Q := by
  obtain ⟨ρ, F, er, z⟩ := z
  refine ⟨ρ, F, er, (gi ρ).mono (fun r h1 J F1 H1 st wk D hD => ?_) (fun _ q => q) z⟩
  dsimp only at h1
  by_cases hz : r.1.length ≤ sizeLine ∧ frozenAt r.2 is = true
  · rw [if_pos hz] at h1
    have h2 : (dcLoop is f gt gk gv r.1 [] r.2).run (fun q => OkE c σ ρ F H Q (.dic none q.1, backE q.2 r.2 is)) (fun _ => False) := h1
    have hFD : F1 D = none := st.2.sub.free hD
    have g0 := (upd_growH (o := .dK []) st.2.sub hD).stp (Own (wipe σ is) (wipeE r.2 is))
    have no0 : ¬ Own (wipe σ is) (wipeE r.2 is) D := not_own_new (st.2.wipe is) hD
    have start : DcAt c is f gt gk gv σ r.2 F1 H1 D r.1 (fun q => OkE c σ ρ F H Q (.dic none q.1, backE q.2 r.2 is)) 0 (upd H1 D (.dK [])) :=
      ⟨[], [], r.2, F1, Nat.le_refl _, upd_same, hFD, no0, ⟨g0.ff, g0.hh, g0.th, fun p q => q.elim .inl fun e => .inr (by rw [e]; exact hD)⟩, er_upd (st.2.wipe is) hFD no0, .nil, h2⟩
    refine ⟨fun i m H' => m = r.1.length - i ∧ i ≤ r.1.length ∧ DcAt c is f gt gk gv σ r.2 F1 H1 D r.1 (fun q => OkE c σ ρ F H Q (.dic none q.1, backE q.2 r.2 is)) i H', ⟨_, rfl, Nat.zero_le _, start⟩, fun i m H' hW => ?_⟩
    obtain ⟨rfl, hle, h⟩ := hW
    by_cases hi : i < r.1.length
    · obtain ⟨go, turn⟩ := dc_turn wk hz.1 hgf h hi
      exact .inr ⟨go, fun H' => DcAt c is f gt gk gv σ r.2 F1 H1 D r.1 (fun q => OkE c σ ρ F H Q (.dic none q.1, backE q.2 r.2 is)) (i + 1) H', fun H' n => ⟨r.1.length - (i + 1), by omega, rfl, hi, n⟩, turn⟩
    · have e : i = r.1.length := by omega
      subst e
      obtain ⟨acc, accP, ρ', F', hl, hDv, hF, no, st', er', rep, run⟩ := h.ex
      rw [List.drop_length] at run
      have q : OkE c σ ρ F H Q (.dic none accP, backE ρ' r.2 is) := run
      obtain ⟨er2, ow2⟩ := er_back' st.2 st'.ff er' hz.2
      rw [backE_wipe] at er2 ow2
      have nD : ¬ Own σ (backE ρ' r.2 is) D := fun z => no (ow2 D z)
      have fz := freeze_grow er2.sub hF hDv
      have hn : H D = none := by
        cases e : H D with
        | none => rfl
        | some o =>
          obtain ⟨o', e'⟩ := st.1.th D o e
          rw [hD] at e'
          cases e'
      have s1 := st.1.trans ((st'.more fun p z => own_wipe z).less fun p z => .inl (ow2 p z))
      refine .inl ⟨wk.stop H' (st'.ff.trans er'.sub), q (.ref D) (upd F' D (.dK acc)) H' ⟨⟨s1.ff.trans fz.1, fun b o h n => ?_, s1.th, s1.ow⟩, freeze_er er2 hF hDv nD⟩ (.dic upd_same (rep.mono fz.1) fun _ z => nomatch z)⟩
      obtain ⟨a1, a2⟩ := s1.hh b o h n
      exact ⟨a1, fun z => by rw [upd_ne (ne_of_none h hn)]; exact a2 z⟩
  · rw [if_neg hz] at h1
    exact h1.elim
theorem vs_setDc {kx vx tg iter : Expr} {ifs : List Expr} {scope : Scope} {own : List (Str × Nat)} {is : List Nat} {pos spos py : Pos} {gi : GI} {g : TG} {f : GG} {gt : GT} {gk gv : GE} {i : Nat} {y : Str} (hc : X.calm = true) (hN : X.N.Nodup) (hy : X.N[i]? = some y) (hyl : X.env.scope.names.lookup y = some .local) (hp : pn i = false)
    (hsw : swapsWith (.DictComp kx vx [⟨tg, iter, ifs, 0⟩] scope pos) (some (.Name y py)) spos.line X.env = pure true) (hi : PI X tg iter (tI c W gi)) (ok : BlkOk X.N X.env.scope scope own)
    (hg : ∀ (s : Shared) (H : Hp) (C : Addr) (cl : List (Str × Addr)) (fp : List Addr), PG (X.blk s H scope (compEnvC scope cl C X.env) fp) tg g) (hgf : TgOk c is g f)
    (ht : ∀ (s : Shared) (H : Hp) (C : Addr) (cl : List (Str × Addr)) (fp : List Addr), PTs (X.blk s H scope (compEnvC scope cl C X.env) fp) ifs (tT c W0 gt))
    (hk : ∀ (s : Shared) (H : Hp) (C : Addr) (cl : List (Str × Addr)) (fp : List Addr), PE (X.blk s H scope (compEnvC scope cl C X.env) fp) kx (tE c W0 gk))
    (he : ∀ (s : Shared) (H : Hp) (C : Addr) (cl : List (Str × Addr)) (fp : List Addr), PE (X.blk s H scope (compEnvC scope cl C X.env) fp) vx (tE c W0 gv)) (his : own.map (·.2) = is := by rfl) (hs : ∀ x, foldedSetIterable iter X.env x = pure x := by intro _; rfl) :
    PS X (.Assign [.Name y py] (.DictComp kx vx [⟨tg, iter, ifs, 0⟩] scope pos) spos) (tS c pn W (sSet i (eDc is gi f gt gk gv))) := by
  subst his
  exact imp_PS (ps_setD hc hN hy hyl hsw hi ok hg ht hk he hs) fun D σ H ⟨ρ, F, er, z⟩ => dc_read hgf (tE_bindS er z fun v ρ1 w F1 H1 st rep h1 => h1 _ F1 H1
    ⟨(Stp.refl F1 H1 _).less fun p q => own_set q, st.2.set rep, (fun j hj => List.getElem?_set_ne (fun q => by subst q; rw [hp] at hj; cases hj)), List.length_set⟩)
end
end VL

set_option Elab.async false
set_option linter.all false
set_option maxRecDepth 100000
set_option maxHeartbeats 1000000
/-! VL, part 27: < of tuples; several names at once, own lists among them; the facts of an own class. -/
namespace VL
open PySem PySem.Spec PyProof.Rows L2

/-! ### < : ints, tuples of ints -/
def pLtT : PV → PV → Option PV
  | .int i, .int j => some (.bl (decide (i < j)))
  | .tup xs, .tup ys => (intsOf xs).bind fun ns => (intsOf ys).map fun ms => .bl (HT.lexLt ns ms)
  | _, _ => none
def rLtA (K : PySem.W.Frag) : R2 := fun x y H Q => (rI0 fun i j => .bl (decide (i < j))) x y H Q ∨ rLtT K x y H Q
section
variable {c : Cn} {X : Cx} {W : WX} {pn : Nat → Bool}
theorem op_ltA (hu : X.A.units < cLine) : OpR X (compareOp .Lt) (rLtA X.K) := op_lt.or (op_ltT hu)
theorem o_ltA (hk : c.K = X.K) : Op2 c pLtT (rLtA X.K) := fun F H x y a b v Q s ra rb e q => by
  cases ra with
  | int i =>
    cases rb with
    | int j => cases e; exact .inl ⟨i, j, rfl, rfl, q _ F H (Grow.refl s) (.bl _)⟩
    | _ => cases e
  | @tup p vs xs h1 r1 =>
    cases rb with
    | @tup p2 vs2 ys h2 r2 =>
      obtain ⟨ns, e1, e2⟩ := Option.bind_eq_some_iff.mp (show (intsOf xs).bind (fun ns => (intsOf ys).map fun ms => PV.bl (HT.lexLt ns ms)) = some v from e)
      obtain ⟨ms, e3, rfl⟩ := Option.map_eq_some_iff.mp e2
      have n1 := intsOf_ok r1 e1
      have n2 := intsOf_ok r2 e3
      subst n1
      subst n2
      exact .inr ⟨p, p2, ns, ms, rfl, rfl, .inl (.inl (s _ _ h1)), .inl (.inl (s _ _ h2)), q _ F H (Grow.refl s) (.bl _)⟩
    | _ => cases e
  | _ => cases rb <;> cases e
theorem hu0 {k : Nat} {A : Around} (hr : Room k A) : A.units < cLine := by have := hr.un; omega

/-! ### a, b = .. with new lists of one's own -/
def sParLL (i j : Nat) (g h : GL) : GS := fun ρ => (g ρ).bind fun a => (h a.2).bind fun b => .ret (.nx ((b.2.set i (.ow a.1)).set j (.ow b.1)))
def sParEL (i j : Nat) (g : GE) (h : GL) : GS := fun ρ => (g ρ).bind fun a => (h a.2).bind fun b => .ret (.nx ((b.2.set i (.fz a.1)).set j (.ow b.1)))
def sParLE (i j : Nat) (g : GL) (h : GE) : GS := fun ρ => (g ρ).bind fun a => (h a.2).bind fun b => .ret (.nx ((b.2.set i (.ow a.1)).set j (.fz b.1)))
variable {i j : Nat} {x y : Str} {a b : Expr} {px py pt pos : Pos} {kt k2 : _} {pt2 : _} {ga gb : GE} {la lb : GL}
theorem set_pin {σ : St} {u v : Option V} (hpi : pn i = false) (hpj : pn j = false) : ∀ k, pn k = true → ((σ.set i u).set j v)[k]? = σ[k]? := fun k hk => by
  have n1 : j ≠ k := fun q => by rw [← q, hpj] at hk; cases hk
  have n2 : i ≠ k := fun q => by rw [← q, hpi] at hk; cases hk
  rw [List.getElem?_set_ne n1, List.getElem?_set_ne n2]
theorem vs_parLL {k2 : Nat} {kt : Nat} {pt2 : Pos} (hc : X.calm = true) (hN : X.N.Nodup) (hi : X.N[i]? = some x) (hj : X.N[j]? = some y) (hij : i ≠ j) (hpi : pn i = false) (hpj : pn j = false)
    (hx : X.env.scope.names.lookup x = some .local) (hy : X.env.scope.names.lookup y = some .local) (ha : PE X a (tL c W la)) (hb : PE X b (tL c W lb)) (hw : swappedStores [.Tuple [.Name x px, .Name y py] kt pt] (.Tuple [a, b] k2 pt2) X.env = pure (some [x, y]))
    (he : starEach [a, b] X.env = (false, eval a X.env) :: starEach [b] X.env := by rfl) (he2 : starEach [b] X.env = (false, eval b X.env) :: starEach [] X.env := by rfl) (hs : swapsWithSole [.Tuple [.Name x px, .Name y py] kt pt] (.Tuple [a, b] k2 pt2) pos.line X.env = pure false := by rfl) :
    PS X (.Assign [.Tuple [.Name x px, .Name y py] kt pt] (.Tuple [a, b] k2 pt2) pos) (tS c pn W (sParLL i j la lb)) :=
  imp_PS (ps_par hc hN hi hj hij hx hy (pa_cons ha (pa_cons hb pa_nil he2) he) hw hs) fun D σ H ⟨ρ, F, er, z⟩ =>
    ⟨ρ, F, er, (la ρ).mono (fun r h1 p vs F1 H1 st hn hF hH no rep => ⟨r.2, F1, st.2, (lb r.2).mono (fun r2 h2 q ws F2 H2 st2 hn2 hF2 hH2 no2 rep2 => by
      obtain ⟨p1, p2⟩ := st2.1.hh p _ hH no
      have no' : ¬ Own σ r2.2 p := fun z => (st2.1.ow p z).elim no fun e => by rw [hH] at e; cases e
      obtain ⟨e1, o1⟩ := er_own (i := i) st2.2 (p2 hF) p1 no' (rep.mono st2.1.ff)
      have qp : q ≠ p := fun e => by rw [e, hH] at hn2; cases hn2
      obtain ⟨e2, o2⟩ := er_own (i := j) e1 hF2 hH2 (fun z => (o1 q z).elim no2 qp) rep2
      have s12 := (st.trans st2).1
      refine ⟨.ref p, .ref q, rfl, h2 _ F2 H2 ⟨⟨s12.ff, s12.hh, s12.th, fun b z => ?_⟩, e2, set_pin hpi hpj, by rw [List.length_set, List.length_set]⟩⟩
      rcases o2 b z with z | z
      · rcases o1 b z with z | z
        · exact s12.ow b z
        · subst z; exact .inr hn
      · subst z; exact .inr (none_of_th st hn2)) (fun _ q => (ErS.step st.s q).e) h1⟩) (fun _ q => q.e) z⟩
theorem vs_parEL {k2 : Nat} {kt : Nat} {pt2 : Pos} (hc : X.calm = true) (hN : X.N.Nodup) (hi : X.N[i]? = some x) (hj : X.N[j]? = some y) (hij : i ≠ j) (hpi : pn i = false) (hpj : pn j = false)
    (hx : X.env.scope.names.lookup x = some .local) (hy : X.env.scope.names.lookup y = some .local) (ha : PE X a (tE c W ga)) (hb : PE X b (tL c W lb)) (hw : swappedStores [.Tuple [.Name x px, .Name y py] kt pt] (.Tuple [a, b] k2 pt2) X.env = pure (some [x, y]))
    (he : starEach [a, b] X.env = (false, eval a X.env) :: starEach [b] X.env := by rfl) (he2 : starEach [b] X.env = (false, eval b X.env) :: starEach [] X.env := by rfl) (hs : swapsWithSole [.Tuple [.Name x px, .Name y py] kt pt] (.Tuple [a, b] k2 pt2) pos.line X.env = pure false := by rfl) :
    PS X (.Assign [.Tuple [.Name x px, .Name y py] kt pt] (.Tuple [a, b] k2 pt2) pos) (tS c pn W (sParEL i j ga lb)) :=
  imp_PS (ps_par hc hN hi hj hij hx hy (pa_cons ha (pa_cons hb pa_nil he2) he) hw hs) fun D σ H ⟨ρ, F, er, z⟩ =>
    ⟨ρ, F, er, (ga ρ).mono (fun r h1 w F1 H1 st rep => ⟨r.2, F1, st.2, (lb r.2).mono (fun r2 h2 q ws F2 H2 st2 hn2 hF2 hH2 no2 rep2 => by
      have e1 := st2.2.set (i := i) (rep.mono st2.1.ff)
      obtain ⟨e2, o2⟩ := er_own (i := j) e1 hF2 hH2 (fun z => no2 (own_set z)) rep2
      have s12 := (st.trans st2).1
      refine ⟨w, .ref q, rfl, h2 _ F2 H2 ⟨⟨s12.ff, s12.hh, s12.th, fun b z => ?_⟩, e2, set_pin hpi hpj, by rw [List.length_set, List.length_set]⟩⟩
      rcases o2 b z with z | z
      · exact s12.ow b (own_set z)
      · subst z; exact .inr (none_of_th st hn2)) (fun _ q => (ErS.step st.s q).e) h1⟩) (fun _ q => q.e) z⟩
theorem vs_parLE {k2 : Nat} {kt : Nat} {pt2 : Pos} (hc : X.calm = true) (hN : X.N.Nodup) (hi : X.N[i]? = some x) (hj : X.N[j]? = some y) (hij : i ≠ j) (hpi : pn i = false) (hpj : pn j = false)
    (hx : X.env.scope.names.lookup x = some .local) (hy : X.env.scope.names.lookup y = some .local) (ha : PE X a (tL c W la)) (hb : PE X b (tE c W gb)) (hw : swappedStores [.Tuple [.Name x px, .Name y py] kt pt] (.Tuple [a, b] k2 pt2) X.env = pure (some [x, y]))
    (he : starEach [a, b] X.env = (false, eval a X.env) :: starEach [b] X.env := by rfl) (he2 : starEach [b] X.env = (false, eval b X.env) :: starEach [] X.env := by rfl) (hs : swapsWithSole [.Tuple [.Name x px, .Name y py] kt pt] (.Tuple [a, b] k2 pt2) pos.line X.env = pure false := by rfl) :
    PS X (.Assign [.Tuple [.Name x px, .Name y py] kt pt] (.Tuple [a, b] k2 pt2) pos) (tS c pn W (sParLE i j la gb)) :=
  imp_PS (ps_par hc hN hi hj hij hx hy (pa_cons ha (pa_cons hb pa_nil he2) he) hw hs) fun D σ H ⟨ρ, F, er, z⟩ =>
    ⟨ρ, F, er, (la ρ).mono (fun r h1 p vs F1 H1 st hn hF hH no rep => ⟨r.2, F1, st.2, (gb r.2).mono (fun r2 h2 y F2 H2 st2 rep2 => by
      obtain ⟨p1, p2⟩ := st2.1.hh p _ hH no
      have no' : ¬ Own σ r2.2 p := fun z => (st2.1.ow p z).elim no fun e => by rw [hH] at e; cases e
      obtain ⟨e1, o1⟩ := er_own (i := i) st2.2 (p2 hF) p1 no' (rep.mono st2.1.ff)
      have e2 := e1.set (i := j) rep2
      have s12 := (st.trans st2).1
      refine ⟨.ref p, y, rfl, h2 _ F2 H2 ⟨⟨s12.ff, s12.hh, s12.th, fun b z => ?_⟩, e2, set_pin hpi hpj, by rw [List.length_set, List.length_set]⟩⟩
      rcases o1 b (own_set z) with z | z
      · exact s12.ow b z
      · subst z; exact .inr hn) (fun _ q => (ErS.step st.s q).e) h1⟩) (fun _ q => q.e) z⟩
end
/-! ### the facts of an own class, as one test -/
def names7 : List String := ["NoneType", "bool", "int", "str", "tuple", "list", "dict"]
def clsB (K : PySem.W.Frag) (x : Str) (fs : List Str) : Bool :=
  PySem.W.plainGet K (He.ga K x) Str.empty && (PySem.W.hasDictIn K (He.ga K x) && (PySem.W.plainOver K (He.ga K x) && (decide (PySem.W.findIn K (.ref (He.ga K x)) "__setattr__" = some (some (.builtin "object.__setattr__"))) &&
  (PySem.W.makesIn K (He.ga K x) && (decide (PySem.W.findIn K (.ref (He.ga K x)) "__init__" = some (some (.ref (He.ma K (He.ga K x) "__init__")))) && (PySem.W.isFn K (.ref (He.ma K (He.ga K x) "__init__")) && (PySem.W.keepIn K (.ref (He.ga K x)) &&
  (fs.all (fun f => decide (PySem.W.findIn K (.ref (He.ga K x)) f = some none)) && (decide (PySem.W.findIn K (.ref (He.ga K x)) "__class__" = some (some (.builtin "object.__class__"))) &&
  (decide (PySem.W.specialIn K (.builtin "object.__class__") "__get__" = some (some (.builtin "getset_descriptor.__get__"))) && (decide (PySem.W.takesIn K (.builtin "object.__class__") = some true) && (decide (PySem.W.mroIn K (He.ga K x) (.type "object") = some true) &&
  (decide (PySem.W.kitOne K (.ref (He.ga K x)) (.ref (He.ga K x)) = some true) && names7.all (fun t => decide (PySem.W.kitOne K (.type t) (.ref (He.ga K x)) = some false)))))))))))))))
theorem clsB_ok {K : PySem.W.Frag} {x : Str} {fs : List Str} (h : clsB K x fs = true) : ClsT K (He.ga K x) (He.ma K (He.ga K x) "__init__") fs ∧ KitC K (He.ga K x) := by
  unfold clsB at h
  simp only [Bool.and_eq_true, decide_eq_true_eq, List.all_eq_true] at h
  obtain ⟨h1, h2, h3, h4, h5, h6, h7, h8, h9, h10, h11, h12, h13, h14, h15⟩ := h
  exact ⟨⟨⟨h1, h2, h3, h4⟩, ⟨h5, h6, h7, h8⟩, h9, h10, h11, h12, h13⟩, h14, h15⟩
def eqCB (K : PySem.W.Frag) (x : Str) : Bool := decide (PySem.W.findIn K (.ref (He.ga K x)) "__eq__" = some (some (.ref (He.ma K (He.ga K x) "__eq__")))) && (PySem.W.isFn K (.ref (He.ma K (He.ga K x) "__eq__")) &&
  ["NoneType", "bool", "int", "str"].all (fun t => PySem.W.notFirst K (He.ga K x) (.type t)))
structure EqF (K : PySem.W.Frag) (C fE : Addr) : Prop where
  at_ : PySem.W.findIn K (.ref C) "__eq__" = some (some (.ref fE))
  fn : PySem.W.isFn K (.ref fE) = true
  nf : ∀ t, t ∈ ["NoneType", "bool", "int", "str"] → PySem.W.notFirst K C (.type t) = true
theorem eqCB_ok {K : PySem.W.Frag} {x : Str} (h : eqCB K x = true) : EqF K (He.ga K x) (He.ma K (He.ga K x) "__eq__") := by
  unfold eqCB at h
  simp only [Bool.and_eq_true, decide_eq_true_eq, List.all_eq_true] at h
  exact ⟨h.1, h.2.1, h.2.2⟩
/-- more names than the target writes -/
theorem TgOk.more {c : Cn} {is is' : List Nat} {g : TG} {f : GG} (h : TgOk c is g f) (sub : ∀ i ∈ is, i ∈ is') : TgOk c is' g f := fun F H σ ρ ρ' x v Q er r e q =>
  h F H σ ρ ρ' x v Q er r e fun σ' er' ow w nj => q σ' er' ow (wipe_eq (by have := congrArg List.length w; rwa [wipe_length, wipe_length] at this) fun j hj => nj j fun z => hj (sub j z)) fun j hj => nj j fun z => hj (sub j z)
end VL

set_option Elab.async false
set_option linter.all false
set_option maxRecDepth 100000
set_option maxHeartbeats 1000000
/-! VL, part 28: three names at once. -/
namespace VL
open PySem PySem.Spec PyProof.Rows L2
section
variable {c : Cn} {X : Cx} {W : WX} {pn : Nat → Bool}
variable {i j l : Nat} {x y z : Str} {a b e : Expr} {px py pz pt pos pt2 : Pos} {kt k2 : Nat} {ga gb ge : GE} {la : GL}
/-- a, b, c = x, y, z -/
def sPar3 (i j l : Nat) (g h k : GE) : GS := fun ρ => (g ρ).bind fun a => (h a.2).bind fun b => (k b.2).bind fun d => .ret (.nx (((d.2.set i (.fz a.1)).set j (.fz b.1)).set l (.fz d.1)))
def sPar3L (i j l : Nat) (g : GL) (h k : GE) : GS := fun ρ => (g ρ).bind fun a => (h a.2).bind fun b => (k b.2).bind fun d => .ret (.nx (((d.2.set i (.ow a.1)).set j (.fz b.1)).set l (.fz d.1)))
theorem set_pin3 {σ : St} {u v w : Option V} (hpi : pn i = false) (hpj : pn j = false) (hpl : pn l = false) : ∀ k, pn k = true → (((σ.set i u).set j v).set l w)[k]? = σ[k]? := fun k hk => by
  have n1 : l ≠ k := fun q => by rw [← q, hpl] at hk; cases hk
  rw [List.getElem?_set_ne n1, set_pin hpi hpj k hk]
theorem vs_par3 (hc : X.calm = true) (hN : X.N.Nodup) (hi : X.N[i]? = some x) (hj : X.N[j]? = some y) (hl : X.N[l]? = some z) (hij : i ≠ j) (hil : i ≠ l) (hjl : j ≠ l) (hpi : pn i = false) (hpj : pn j = false) (hpl : pn l = false)
    (hx : X.env.scope.names.lookup x = some .local) (hy : X.env.scope.names.lookup y = some .local) (hz : X.env.scope.names.lookup z = some .local) (ha : PE X a (tE c W ga)) (hb : PE X b (tE c W gb)) (hd : PE X e (tE c W ge))
    (hw : swappedStores [.Tuple [.Name x px, .Name y py, .Name z pz] kt pt] (.Tuple [a, b, e] k2 pt2) X.env = pure (some [x, y, z]))
    (he : starEach [a, b, e] X.env = (false, eval a X.env) :: starEach [b, e] X.env := by rfl) (he2 : starEach [b, e] X.env = (false, eval b X.env) :: starEach [e] X.env := by rfl) (he3 : starEach [e] X.env = (false, eval e X.env) :: starEach [] X.env := by rfl)
    (hs : swapsWithSole [.Tuple [.Name x px, .Name y py, .Name z pz] kt pt] (.Tuple [a, b, e] k2 pt2) pos.line X.env = pure false := by rfl) :
    PS X (.Assign [.Tuple [.Name x px, .Name y py, .Name z pz] kt pt] (.Tuple [a, b, e] k2 pt2) pos) (tS c pn W (sPar3 i j l ga gb ge)) :=
  imp_PS (ps_par3 hc hN hi hj hl hij hil hjl hx hy hz (pa_cons ha (pa_cons hb (pa_cons hd pa_nil he3) he2) he) hw hs) fun D σ H ⟨ρ, F, er, z⟩ =>
    tE_bindS er z fun v ρ1 w F1 H1 st rep h1 => tE_bindS st.2 h1 fun u ρ2 y F2 H2 st2 rep2 h2 => tE_bindS st2.2 h2 fun t ρ3 q F3 H3 st3 rep3 h3 => ⟨w, y, q, rfl, h3 _ F3 H3
      ⟨(Stp.refl F3 H3 _).less fun p q => own_set (own_set (own_set q)), ((st3.2.set ((rep.mono st2.1.ff).mono st3.1.ff)).set (rep2.mono st3.1.ff)).set rep3, set_pin3 hpi hpj hpl, by rw [List.length_set, List.length_set, List.length_set]⟩⟩
theorem vs_par3L (hc : X.calm = true) (hN : X.N.Nodup) (hi : X.N[i]? = some x) (hj : X.N[j]? = some y) (hl : X.N[l]? = some z) (hij : i ≠ j) (hil : i ≠ l) (hjl : j ≠ l) (hpi : pn i = false) (hpj : pn j = false) (hpl : pn l = false)
    (hx : X.env.scope.names.lookup x = some .local) (hy : X.env.scope.names.lookup y = some .local) (hz : X.env.scope.names.lookup z = some .local) (ha : PE X a (tL c W la)) (hb : PE X b (tE c W gb)) (hd : PE X e (tE c W ge))
    (hw : swappedStores [.Tuple [.Name x px, .Name y py, .Name z pz] kt pt] (.Tuple [a, b, e] k2 pt2) X.env = pure (some [x, y, z]))
    (he : starEach [a, b, e] X.env = (false, eval a X.env) :: starEach [b, e] X.env := by rfl) (he2 : starEach [b, e] X.env = (false, eval b X.env) :: starEach [e] X.env := by rfl) (he3 : starEach [e] X.env = (false, eval e X.env) :: starEach [] X.env := by rfl)
    (hs : swapsWithSole [.Tuple [.Name x px, .Name y py, .Name z pz] kt pt] (.Tuple [a, b, e] k2 pt2) pos.line X.env = pure false := by rfl) :
    PS X (.Assign [.Tuple [.Name x px, .Name y py, .Name z pz] kt pt] (.Tuple [a, b, e] k2 pt2) pos) (tS c pn W (sPar3L i j l la gb ge)) :=
  imp_PS (ps_par3 hc hN hi hj hl hij hil hjl hx hy hz (pa_cons ha (pa_cons hb (pa_cons hd pa_nil he3) he2) he) hw hs) fun D σ H ⟨ρ, F, er, z⟩ =>
    ⟨ρ, F, er, (la ρ).mono (fun r h1 p vs F1 H1 st hn hF hH no rep => ⟨r.2, F1, st.2, (gb r.2).mono (fun r2 h2 y F2 H2 st2 rep2 => ⟨r2.2, F2, st2.2, (ge r2.2).mono (fun r3 h3 q F3 H3 st3 rep3 => by
      have s23 := (st2.trans st3).1
      obtain ⟨p1, p2⟩ := s23.hh p _ hH no
      have no' : ¬ Own σ r3.2 p := fun z => (s23.ow p z).elim no fun e => by rw [hH] at e; cases e
      obtain ⟨e1, o1⟩ := er_own (i := i) st3.2 (p2 hF) p1 no' (rep.mono s23.ff)
      have e2 := (e1.set (i := j) (rep2.mono st3.1.ff)).set (i := l) rep3
      have s13 := (st.trans (st2.trans st3)).1
      refine ⟨.ref p, y, q, rfl, h3 _ F3 H3 ⟨⟨s13.ff, s13.hh, s13.th, fun b z => ?_⟩, e2, set_pin3 hpi hpj hpl, by rw [List.length_set, List.length_set, List.length_set]⟩⟩
      rcases o1 b (own_set (own_set z)) with z | z
      · exact s13.ow b z
      · subst z; exact .inr hn) (fun _ q => (ErS.step (st.trans st2).s q).e) h2⟩) (fun _ q => (ErS.step st.s q).e) h1⟩) (fun _ q => q.e) z⟩
end
end VL

set_option Elab.async false
set_option linter.all false
set_option maxRecDepth 100000
set_option maxHeartbeats 1000000
/-! VL, part 29: plain help for comprehensions with two for, for dicts, for equal trees. -/
namespace VL
open PySem PySem.Spec PyProof.Rows L2
theorem lcLoop2_gen {is is1 : List Nat} {f f1 : GG} {gt gt1 : GT} {gi1 : GI} {ge : GE} (C : Env' → Prop) (ys : PV → List PV) (h : PV → PV → PV) : ∀ (xs : List PV) (ρ1 : Env'), C ρ1 →
    (∀ x ∈ xs, ∀ ρ1, C ρ1 → ∃ ρ2, f x (wipeE ρ1 is) = some ρ2 ∧ gt ρ2 = .ret (true, ρ2) ∧ gi1 ρ2 = .ret (ys x, ρ2) ∧ (ys x).length ≤ 4096 ∧ ∃ D : Env' → Prop, D ρ2 ∧ (∀ ρ3, D ρ3 → C ρ3) ∧
      (∀ y ∈ ys x, ∀ ρ3, D ρ3 → ∃ ρ4, f1 y (wipeE ρ3 is1) = some ρ4 ∧ D ρ4 ∧ gt1 ρ4 = .ret (true, ρ4) ∧ ge ρ4 = .ret (h x y, ρ4))) →
    ∃ ρ', C ρ' ∧ lcLoop2 is is1 f gt gi1 f1 gt1 ge xs ρ1 = .ret (xs.flatMap fun x => (ys x).map (h x), ρ')
  | [], ρ1, hC, _ => ⟨ρ1, hC, rfl⟩
  | x :: xs, ρ1, hC, hs => by
    obtain ⟨ρ2, e1, e2, e3, e4, D, d2, dc, e5⟩ := hs x List.mem_cons_self ρ1 hC
    obtain ⟨ρ3, c3, e6⟩ := lcLoop_gen (f := f1) (gt := gt1) (ge := ge) D (fun _ => true) (h x) (ys x) ρ2 d2 (fun y hy ρ3 d3 => by
      obtain ⟨ρ4, a, b, c, d⟩ := e5 y hy ρ3 d3
      exact ⟨ρ4, a, b, c, fun _ => d⟩)
    obtain ⟨ρ', a, b⟩ := lcLoop2_gen C ys h xs ρ3 (dc _ c3) fun y hy => hs y (List.mem_cons_of_mem _ hy)
    refine ⟨ρ', a, ?_⟩
    unfold lcLoop2
    rw [e1]
    dsimp only
    rw [e2]
    simp only [Wp.ret_bind, if_true, e3]
    rw [if_pos e4, e6]
    simp only [Wp.ret_bind, b, filter_all fun _ _ => rfl, List.flatMap_cons]
/-- a comprehension with two for, without effects -/
theorem lLc2_gen {is is1 : List Nat} {gi : GI} {f f1 : GG} {gt gt1 : GT} {gi1 : GI} {ge : GE} {ρ : Env'} {xs : List PV} (C : Env' → Prop) (ys : PV → List PV) (h : PV → PV → PV) (hi : gi ρ = .ret (xs, ρ)) (hz : xs.length ≤ 4096) (fr : frozenAt ρ is = true) (hC : C ρ)
    (hs : ∀ x ∈ xs, ∀ ρ1, C ρ1 → ∃ ρ2, f x (wipeE ρ1 is) = some ρ2 ∧ gt ρ2 = .ret (true, ρ2) ∧ gi1 ρ2 = .ret (ys x, ρ2) ∧ (ys x).length ≤ 4096 ∧ ∃ D : Env' → Prop, D ρ2 ∧ (∀ ρ3, D ρ3 → C ρ3) ∧
      (∀ y ∈ ys x, ∀ ρ3, D ρ3 → ∃ ρ4, f1 y (wipeE ρ3 is1) = some ρ4 ∧ D ρ4 ∧ gt1 ρ4 = .ret (true, ρ4) ∧ ge ρ4 = .ret (h x y, ρ4))) (hb : ∀ ρ1, C ρ1 → backE ρ1 ρ is = ρ) :
    lLc2 is is1 gi f gt gi1 f1 gt1 ge ρ = .ret (xs.flatMap fun x => (ys x).map (h x), ρ) := by
  obtain ⟨ρ', a, b⟩ := lcLoop2_gen (f := f) (f1 := f1) (gt := gt) (gt1 := gt1) (gi1 := gi1) (ge := ge) C ys h xs ρ hC hs
  unfold lLc2
  rw [hi]
  simp only [Wp.ret_bind]
  rw [if_pos ⟨hz, fr⟩, b]
  simp only [noEx_ret, Wp.ret_bind]
  rw [hb _ a]
theorem putP_new {kvs : List (Key × PV)} {k : Key} {v : PV} (h : ∀ kv ∈ kvs, kv.1 ≠ k) : putP kvs k v = kvs ++ [(k, v)] := by
  unfold putP
  rw [if_neg]
  intro z
  obtain ⟨kv, h1, h2⟩ := List.any_eq_true.mp z
  exact h kv h1 (of_decide_eq_true h2)
/-- a dict comprehension over pairs with unlike keys -/
theorem dcLoop_gen {is : List Nat} {f : GG} {gt : GT} {gk gv : GE} (C : Env' → Prop) (K : PV → Key) (V' : PV → PV) : ∀ (xs : List PV) (acc : List (Key × PV)) (ρ1 : Env'), C ρ1 → (xs.Pairwise fun x y => K x ≠ K y) → (∀ kv ∈ acc, ∀ x ∈ xs, kv.1 ≠ K x) →
    (∀ x ∈ xs, ∀ ρ1, C ρ1 → ∃ ρ2 kx, f x (wipeE ρ1 is) = some ρ2 ∧ C ρ2 ∧ gt ρ2 = .ret (true, ρ2) ∧ gk ρ2 = .ret (kx, ρ2) ∧ keyP kx = some (K x) ∧ gv ρ2 = .ret (V' x, ρ2)) →
    ∃ ρ', C ρ' ∧ dcLoop is f gt gk gv xs acc ρ1 = .ret (acc ++ xs.map fun x => (K x, V' x), ρ')
  | [], acc, ρ1, hC, _, _, _ => ⟨ρ1, hC, by unfold dcLoop; rw [List.map_nil, List.append_nil]⟩
  | x :: xs, acc, ρ1, hC, hp, ha, hs => by
    obtain ⟨ρ2, kx, e1, c2, e2, e3, e4, e5⟩ := hs x List.mem_cons_self ρ1 hC
    obtain ⟨p1, p2⟩ := List.pairwise_cons.mp hp
    obtain ⟨ρ', a, b⟩ := dcLoop_gen C K V' xs (acc ++ [(K x, V' x)]) ρ2 c2 p2 (fun kv hkv y hy => by
      rcases List.mem_append.mp hkv with z | z
      · exact ha kv z y (List.mem_cons_of_mem _ hy)
      · rw [List.mem_singleton.mp z]; exact p1 y hy) fun y hy => hs y (List.mem_cons_of_mem _ hy)
    refine ⟨ρ', a, ?_⟩
    unfold dcLoop
    rw [e1]
    dsimp only
    rw [e2]
    simp only [Wp.ret_bind, if_true, e3, e4, e5]
    rw [putP_new fun kv hkv => ha kv hkv x List.mem_cons_self, b, List.append_assoc]
    rfl
theorem eDc_gen {is : List Nat} {gi : GI} {f : GG} {gt : GT} {gk gv : GE} {ρ : Env'} {xs : List PV} (C : Env' → Prop) (K : PV → Key) (V' : PV → PV) (hi : gi ρ = .ret (xs, ρ)) (hz : xs.length ≤ sizeLine) (fr : frozenAt ρ is = true) (hC : C ρ) (hp : xs.Pairwise fun x y => K x ≠ K y)
    (hs : ∀ x ∈ xs, ∀ ρ1, C ρ1 → ∃ ρ2 kx, f x (wipeE ρ1 is) = some ρ2 ∧ C ρ2 ∧ gt ρ2 = .ret (true, ρ2) ∧ gk ρ2 = .ret (kx, ρ2) ∧ keyP kx = some (K x) ∧ gv ρ2 = .ret (V' x, ρ2)) (hb : ∀ ρ1, C ρ1 → backE ρ1 ρ is = ρ) :
    eDc is gi f gt gk gv ρ = .ret (.dic none (xs.map fun x => (K x, V' x)), ρ) := by
  obtain ⟨ρ', a, b⟩ := dcLoop_gen (f := f) (gt := gt) (gk := gk) (gv := gv) C K V' xs [] ρ hC hp (fun _ z => nomatch z) hs
  unfold eDc
  rw [hi]
  simp only [Wp.ret_bind]
  rw [if_pos ⟨hz, fr⟩, b]
  simp only [noEx_ret, Wp.ret_bind, List.nil_append]
  rw [hb _ a]
/-! ### equal trees -/
mutual
/-- of numbers alone, no deeper than n -/
def flatI : Nat → PV → Bool
  | _, .int _ => true
  | n + 1, .tup xs => flatIs n xs
  | n + 1, .lst _ xs => flatIs n xs
  | _, _ => false
def flatIs : Nat → List PV → Bool
  | _, [] => true
  | n, x :: xs => flatI n x && flatIs n xs
end
mutual
theorem flatI_ok : ∀ (n : Nat) (v : PV), flatI n v = true → ∃ d, pvD v = some d ∧ d.canLay0 = true ∧ d.depth ≤ n
  | n, .int i, _ => ⟨.int i, rfl, by simp [PyData.canLay0], by simp [PyData.depth]⟩
  | 0, .tup xs, h => by simp [flatI] at h
  | n + 1, .tup xs, h => by
    obtain ⟨ds, a, b, c⟩ := flatIs_ok n xs (by simpa [flatI] using h)
    exact ⟨.tuple ds, by simp [pvD, a], by simp [PyData.canLay0, b], by simp [PyData.depth]; omega⟩
  | 0, .lst _ xs, h => by simp [flatI] at h
  | n + 1, .lst _ xs, h => by
    obtain ⟨ds, a, b, c⟩ := flatIs_ok n xs (by simpa [flatI] using h)
    exact ⟨.list ds, by simp [pvD, a], by simp [PyData.canLay0, b], by simp [PyData.depth]; omega⟩
  | n, .non, h => by cases n <;> simp [flatI] at h
  | n, .bl _, h => by cases n <;> simp [flatI] at h
  | n, .str _, h => by cases n <;> simp [flatI] at h
  | n, .dic _ _, h => by cases n <;> simp [flatI] at h
  | n, .ins _ _, h => by cases n <;> simp [flatI] at h
  | n, .scr _, h => by cases n <;> simp [flatI] at h
  | n, .any, h => by cases n <;> simp [flatI] at h
theorem flatIs_ok : ∀ (n : Nat) (xs : List PV), flatIs n xs = true → ∃ ds, pvDs xs = some ds ∧ PyData.canLayAll0 ds = true ∧ PyData.depthAll ds ≤ n
  | n, [], _ => ⟨[], rfl, by simp [PyData.canLayAll0], by simp [PyData.depthAll]⟩
  | n, x :: xs, h => by
    unfold flatIs at h
    rw [Bool.and_eq_true] at h
    obtain ⟨d, a, b, c⟩ := flatI_ok n x h.1
    obtain ⟨ds, a2, b2, c2⟩ := flatIs_ok n xs h.2
    exact ⟨d :: ds, by simp [pvDs, a, a2], by simp [PyData.canLayAll0, b, b2], by simp [PyData.depthAll]; omega⟩
end
theorem flatIs_all {n : Nat} : ∀ {xs : List PV}, (∀ x ∈ xs, flatI n x = true) → flatIs n xs = true
  | [], _ => by unfold flatIs; rfl
  | x :: xs, h => by unfold flatIs; rw [h x List.mem_cons_self, flatIs_all fun y hy => h y (List.mem_cons_of_mem _ hy)]; rfl
theorem eq_tup_self {xs : List PV} (h : flatI 60 (.tup xs) = true) : pEq (.tup xs) (.tup xs) = some (.bl true) := by
  obtain ⟨d, a, b, c⟩ := flatI_ok 60 _ h
  unfold pEq
  have e : eqB (.tup xs) (.tup xs) = some true := by
    show eqD (.tup xs) (.tup xs) = _
    unfold eqD
    rw [a]
    have sh : SeqAt.shaped d = true := by
      unfold SeqAt.shaped
      rw [b, Bool.true_and]
      exact decide_eq_true (by omega)
    dsimp only
    rw [if_pos ⟨sh, sh⟩]
    rw [PySem.SeqAt.eqv_refl d b]
  rw [e]
  rfl
theorem pAll_true {α : Type} (xs : List α) : pAll (.lst none (xs.map fun _ => PV.bl true)) = some (.bl true) := by
  have e : blsOf (xs.map fun _ => PV.bl true) = some (xs.map fun _ => true) := by
    induction xs with
    | nil => rfl
    | cons x xs ih => simp [blsOf, ih]
  show (blsOf _).map _ = _
  rw [e]
  have q : (xs.map fun _ => true).all id = true := List.all_eq_true.mpr fun b h => by obtain ⟨_, _, rfl⟩ := List.mem_map.mp h; rfl
  rw [Option.map_some, q]
theorem all_true {α : Type} {w : Wp XE' (List PV × Env')} {xs : List α} {ρ : Env'} (h : w = .ret (xs.map (fun _ => PV.bl true), ρ)) : ∃ bs, w = .ret (bs, ρ) ∧ pAll (.lst none bs) = some (.bl true) := ⟨_, h, pAll_true xs⟩
/-- a loop that runs to its end, without effects -/
theorem for_det {f : GG} {g : GS} (C : Nat → Env' → Prop) : ∀ (xs : List PV) (n : Nat) (ρ : Env'), C n ρ →
    (∀ (k : Nat) (x : PV), xs[k]? = some x → ∀ ρ1, C (n + k) ρ1 → ∃ ρ2 ρ3, f x ρ1 = some ρ2 ∧ g ρ2 = .ret (.nx ρ3) ∧ C (n + k + 1) ρ3) → ∃ ρ', C (n + xs.length) ρ' ∧ forLoop f g xs ρ = .ret (.nx ρ')
  | [], n, ρ, hC, _ => ⟨ρ, hC, rfl⟩
  | x :: xs, n, ρ, hC, hs => by
    obtain ⟨ρ2, ρ3, e1, e2, c3⟩ := hs 0 x rfl ρ hC
    obtain ⟨ρ', a, b⟩ := for_det C xs (n + 1) ρ3 c3 fun k y hy ρ1 c1 => by
      have := hs (k + 1) y (by simpa using hy) ρ1 (by rw [show n + (k + 1) = n + 1 + k by omega]; exact c1)
      rw [show n + (k + 1) + 1 = n + 1 + k + 1 by omega] at this
      exact this
    refine ⟨ρ', by rw [List.length_cons, show n + (xs.length + 1) = n + 1 + xs.length by omega]; exact a, ?_⟩
    unfold forLoop
    rw [e1]
    dsimp only
    rw [e2, Wp.ret_bind]
    exact b
theorem range_at {n k : Nat} {x : PV} (h : ((List.range n).map fun (k : Nat) => PV.int k)[k]? = some x) : k < n ∧ x = .int k := by
  rw [List.getElem?_map, Option.map_eq_some_iff] at h
  obtain ⟨j, e, rfl⟩ := h
  obtain ⟨a, b⟩ := List.getElem?_eq_some_iff.mp e
  rw [List.getElem_range] at b
  rw [List.length_range] at a
  exact ⟨a, by rw [b]⟩
/-! ### runs -/
theorem run_of {ε α β : Type} {m : Wp ε α} {f : α → Wp ε β} {K : β → Prop} {E : ε → Prop} (h : m.run (fun a => (f a).run K E) E) : (m.bind f).run K E := h
theorem run_map {ε ε' α : Type} (m : Wp ε α) (g : ε → ε') (K : α → Prop) (E : ε' → Prop) : (m.mapE g).run K E = m.run K fun e => E (g e) := rfl
theorem boxed_run {m : GF} {i n : Nat} {ρ : Env'} {ga : GA} {v : List PV} {K : PV × Env' → Prop} {E : XE' → Prop} (h : ρ[i]? = some (.bx n)) (hg : ga ρ = .ret (v, ρ)) (hm : (m (.bx n :: fzs v)).run (fun r => K (r.1, ρ.set i (r.2.headD .un))) (fun e => E (e.1, ρ.set i (e.2.headD .un)))) : (eCallB m i ga ρ).run K E := by
  have o : ownAt ρ i = true := by unfold ownAt; rw [h]; rfl
  rw [c_eCallB, if_pos o, hg]
  simp only [Wp.ret_bind]
  unfold boxCall
  rw [h]
  dsimp only
  rw [if_pos (show (SV.bx n).own = true from rfl)]
  exact run_of hm
theorem boxCall_run {m : GF} {i n : Nat} {ρ : Env'} {v : List PV} {K : PV × Env' → Prop} {E : XE' → Prop} (h : ρ[i]? = some (.bx n)) (hm : (m (.bx n :: fzs v)).run (fun r => K (r.1, ρ.set i (r.2.headD .un))) (fun e => E (e.1, ρ.set i (e.2.headD .un)))) : (boxCall m i v ρ).run K E := by
  unfold boxCall
  rw [h]
  dsimp only
  rw [if_pos (show (SV.bx n).own = true from rfl)]
  exact run_of hm
mutual
/-- small trees that are the same as themselves -/
def smz : Nat → PV → Bool
  | _ + 1, .non => true
  | _ + 1, .bl _ => true
  | _ + 1, .int _ => true
  | _ + 1, .str x => decide (x.length ≤ 16777216)
  | n + 1, .tup xs => decide (xs.length ≤ 16777216) && smzs n xs
  | n + 1, .lst _ xs => decide (xs.length ≤ 16777216) && smzs n xs
  | _, _ => false
def smzs : Nat → List PV → Bool
  | _, [] => true
  | n, x :: xs => smz n x && smzs n xs
end
theorem smzs_at : ∀ {n : Nat} {xs : List PV} {i : Nat} {x : PV}, smzs n xs = true → xs[i]? = some x → smz n x = true
  | _, [], _, _, _, e => by simp at e
  | n, y :: ys, 0, x, h, e => by
    unfold smzs at h
    rw [Bool.and_eq_true] at h
    simp at e
    rw [← e]
    exact h.1
  | n, y :: ys, i + 1, x, h, e => by
    unfold smzs at h
    rw [Bool.and_eq_true] at h
    exact smzs_at h.2 (by simpa using e)
theorem smzs_all : ∀ {n : Nat} {xs : List PV}, (∀ x ∈ xs, smz n x = true) → smzs n xs = true
  | _, [], _ => by unfold smzs; rfl
  | n, x :: xs, h => by unfold smzs; rw [h x List.mem_cons_self, smzs_all fun y hy => h y (List.mem_cons_of_mem _ hy)]; rfl
theorem sm_refl : ∀ (n : Nat) (v : PV), smz n v = true → Sm n v v
  | 0, v, h => by unfold smz at h; cases v <;> cases h
  | n + 1, .non, _ => .non
  | n + 1, .bl b, _ => .bl b
  | n + 1, .int i, _ => .int i
  | n + 1, .str x, h => by unfold smz at h; exact .str x (sl_le (of_decide_eq_true h))
  | n + 1, .tup xs, h => by
    unfold smz at h
    rw [Bool.and_eq_true] at h
    exact .tup rfl (sl_le (of_decide_eq_true h.1)) fun i x y hx hy => by
      rw [hx] at hy
      cases hy
      exact sm_refl n x (smzs_at h.2 hx)
  | n + 1, .lst g xs, h => by
    unfold smz at h
    rw [Bool.and_eq_true] at h
    exact .lst rfl (sl_le (of_decide_eq_true h.1)) fun i x y hx hy => by
      rw [hx] at hy
      cases hy
      exact sm_refl n x (smzs_at h.2 hx)
  | n + 1, .dic _ _, h => by unfold smz at h; cases h
  | n + 1, .ins _ _, h => by unfold smz at h; cases h
  | n + 1, .scr _, h => by unfold smz at h; cases h
  | n + 1, .any, h => by unfold smz at h; cases h
theorem lcLoop_inv {ii : List Nat} {f : GG} {gt : GT} {ge : GE} {E : XE' → Prop} (J : Nat → List PV → Env' → Prop) : ∀ (xs : List PV) (n : Nat) (acc : List PV) (ρ1 : Env') {K : List PV × Env' → Prop}, J n acc ρ1 →
    (∀ (k : Nat) (x : PV), xs[k]? = some x → ∀ acc ρ1, J (n + k) acc ρ1 → ∃ ρ2 b, f x (wipeE ρ1 ii) = some ρ2 ∧ gt ρ2 = .ret (b, ρ2) ∧ (b = false → J (n + k + 1) acc ρ2) ∧ (b = true → ∀ {K : PV × Env' → Prop} {E : XE' → Prop}, (∀ y ρ3, J (n + k + 1) (acc ++ [y]) ρ3 → K (y, ρ3)) → (ge ρ2).run K E)) →
    (∀ ys ρ', J (n + xs.length) (acc ++ ys) ρ' → K (ys, ρ')) → (lcLoop ii f gt ge xs ρ1).run K E
  | [], n, acc, ρ1, K, h, _, hK => hK [] ρ1 (by rw [List.append_nil]; exact h)
  | x :: xs, n, acc, ρ1, K, h, hs, hK => by
    obtain ⟨ρ2, b, e1, e2, h1, h2⟩ := hs 0 x rfl acc ρ1 h
    have hs' : ∀ (k : Nat) (x : PV), xs[k]? = some x → ∀ acc ρ1, J (n + 1 + k) acc ρ1 → ∃ ρ2 b, f x (wipeE ρ1 ii) = some ρ2 ∧ gt ρ2 = .ret (b, ρ2) ∧ (b = false → J (n + 1 + k + 1) acc ρ2) ∧ (b = true → ∀ {K : PV × Env' → Prop} {E : XE' → Prop}, (∀ y ρ3, J (n + 1 + k + 1) (acc ++ [y]) ρ3 → K (y, ρ3)) → (ge ρ2).run K E) := fun k y hy acc ρ1 hj => by
      have q := hs (k + 1) y (by simpa using hy) acc ρ1 (by rw [show n + (k + 1) = n + 1 + k by omega]; exact hj)
      rw [show n + (k + 1) + 1 = n + 1 + k + 1 by omega] at q
      exact q
    have el : n + (x :: xs).length = n + 1 + xs.length := by rw [List.length_cons]; omega
    unfold lcLoop
    rw [e1]
    dsimp only
    rw [e2]
    cases b with
    | true =>
      simp only [Wp.ret_bind, if_true, Wp.run_bind]
      refine h2 rfl fun y ρ3 hj => ?_
      exact lcLoop_inv (K := fun r => K (y :: r.1, r.2)) J xs (n + 1) (acc ++ [y]) ρ3 hj hs' fun ys ρ' hj' => hK (y :: ys) ρ' (by rw [el]; rw [List.append_assoc] at hj'; exact hj')
    | false =>
      simp only [Wp.ret_bind, Bool.false_eq_true, if_false]
      exact lcLoop_inv J xs (n + 1) acc ρ2 (h1 rfl) hs' fun ys ρ' hj' => hK ys ρ' (by rw [el]; exact hj')
/-- a comprehension with a test, that draws -/
theorem lLc_inv {ii : List Nat} {gi : GI} {f : GG} {gt : GT} {ge : GE} {ρ : Env'} {xs : List PV} {K : List PV × Env' → Prop} {E : XE' → Prop} (J : Nat → List PV → Env' → Prop) (hi : gi ρ = .ret (xs, ρ)) (hz : xs.length ≤ sizeLine) (fr : frozenAt ρ ii = true) (hJ : J 0 [] ρ)
    (hs : ∀ (k : Nat) (x : PV), xs[k]? = some x → ∀ acc ρ1, J k acc ρ1 → ∃ ρ2 b, f x (wipeE ρ1 ii) = some ρ2 ∧ gt ρ2 = .ret (b, ρ2) ∧ (b = false → J (k + 1) acc ρ2) ∧ (b = true → ∀ {K : PV × Env' → Prop} {E : XE' → Prop}, (∀ y ρ3, J (k + 1) (acc ++ [y]) ρ3 → K (y, ρ3)) → (ge ρ2).run K E))
    (hK : ∀ ys ρ', J xs.length ys ρ' → K (ys, backE ρ' ρ ii)) : (lLc ii gi f gt ge ρ).run K E := by
  unfold lLc
  rw [hi]
  simp only [Wp.ret_bind]
  rw [if_pos ⟨hz, fr⟩]
  simp only [Wp.run_bind, noEx_run]
  exact lcLoop_inv J xs 0 [] ρ hJ (fun k x hx acc ρ1 hj => by
    rw [Nat.zero_add] at hj ⊢
    exact hs k x hx acc ρ1 hj) fun ys ρ' hj => hK ys ρ' (by rw [Nat.zero_add, List.nil_append] at hj; exact hj)
/-- a loop that runs to its end, and draws -/
theorem for_inv {f : GG} {g : GS} {K : Out → Prop} {E : XE' → Prop} (C : Nat → Env' → Prop) : ∀ (xs : List PV) (n : Nat) (ρ : Env'), C n ρ →
    (∀ (k : Nat) (x : PV), xs[k]? = some x → ∀ ρ1, C (n + k) ρ1 → ∃ ρ2, f x ρ1 = some ρ2 ∧ ∀ {K : Out → Prop} {E : XE' → Prop}, (∀ ρ', C (n + k + 1) ρ' → K (.nx ρ')) → (g ρ2).run K E) →
    (∀ ρ', C (n + xs.length) ρ' → K (.nx ρ')) → (forLoop f g xs ρ).run K E
  | [], n, ρ, hC, _, hK => hK ρ hC
  | x :: xs, n, ρ, hC, hs, hK => by
    obtain ⟨ρ2, e1, e2⟩ := hs 0 x rfl ρ hC
    unfold forLoop
    rw [e1]
    simp only [Wp.run_bind]
    refine e2 (K := fun o => (match o with
        | .nx ρ2 => forLoop f g xs ρ2
        | .ct ρ2 => forLoop f g xs ρ2
        | .bk ρ2 => .ret (.nx ρ2)
        | .rt v ρ2 => .ret (.rt v ρ2)
        | .th (some b) ρ2 => .ret (.th (some b) ρ2)
        | .th none _ => .stuck : Wp XE' Out).run K E) fun ρ' c' => ?_
    exact for_inv C xs (n + 1) ρ' c' (fun k y hy ρ1 hc => by
      have q := hs (k + 1) y (by simpa using hy) ρ1 (by rw [show n + (k + 1) = n + 1 + k by omega]; exact hc)
      rw [show n + (k + 1) + 1 = n + 1 + k + 1 by omega] at q
      exact q) fun ρ'' c'' => hK ρ'' (by
      rw [List.length_cons, show n + (xs.length + 1) = n + 1 + xs.length by omega]; exact c'')
/-- a thing of a table -/
theorem tab {xs : List PV} {P : PV → Prop} (h : ∀ x ∈ xs, P x) {d : Int} (h1 : 0 ≤ d) (h2 : d < xs.length) : ∃ x, pIx (.lst none xs) (.int d) = some x ∧ P x := by
  obtain ⟨k, rfl⟩ := Int.eq_ofNat_of_zero_le h1
  have hk : k < xs.length := by omega
  exact ⟨xs[k], atI_nat' (List.getElem?_eq_getElem hk), h _ (List.getElem_mem hk)⟩
theorem iRange_sub {n : Nat} (h : n ≤ 1000000) : iRange (.int ((n : Int) - 1)) = some ((List.range (n - 1)).map fun (k : Nat) => PV.int k) := by
  unfold iRange
  have e1 : ((n : Int) - 1).natAbs < 4611686018427387904 := by omega
  have e2 : ((n : Int) - 1).toNat = n - 1 := by omega
  dsimp only
  rw [if_pos e1, e2]
end VL

set_option Elab.async false
set_option linter.all false
set_option maxRecDepth 100000
set_option maxHeartbeats 1000000
/-! VL, part 30: xs.extend(..) of a list of one's own. -/
namespace VL
open PySem PySem.Spec PyProof.Rows L2
def extV : PV → Option SV → Option (List PV)
  | .lst _ zs, some (.ow xs) => if xs.length + zs.length ≤ sizeLine then some (xs ++ zs) else none
  | _, _ => none
/-- xs.extend(e), xs a list of one's own, e a list -/
def sExtO (i : Nat) (g : GE) : GS := fun ρ => if ownAt ρ i = true then (g ρ).bind fun a => match extV a.1 a.2[i]? with
  | some ys => .ret (.nx (a.2.set i (.ow ys)))
  | none => .stuck
  else .stuck
@[simp] theorem c_sExtO {i : Nat} {g : GE} {ρ : Env'} : sExtO i g ρ = if ownAt ρ i = true then (g ρ).bind fun a => match extV a.1 a.2[i]? with
  | some ys => .ret (.nx (a.2.set i (.ow ys)))
  | none => .stuck
  else .stuck := (rfl)
section
variable {c : Cn} {X : Cx} {W : WX} {pn : Nat → Bool} {i : Nat} {a : Expr} {ga : GE} {p pos : Pos}
theorem reps_app {F : Hp} : ∀ {vs ws : List V} {xs ys : List PV}, Reps c F vs xs → Reps c F ws ys → Reps c F (vs ++ ws) (xs ++ ys)
  | _, _, _, _, .nil, r => r
  | _, _, _, _, .cons h t, r => .cons h (reps_app t r)
theorem vs_extO {o : Expr} {apos : Pos} (ho : PE X o (tVar i)) (ha : PE X a (tE c W ga)) (hbase : attributeBase o "extend" X.env (eval o X.env) = eval o X.env := by rfl)
    (hfew : ((backTo p (starEach [a] X.env)).all (fun x => !x.1) && (backToKw p (keywordEach [] X.env)).all (fun x => x.1.isSome) && decide ([a].length + ([] : List Keyword).length + (if ([] : List Keyword).isEmpty then 0 else 1) < 30)) = true := by rfl)
    (hline : (apos.endLine == p.line) = true := by rfl) (hs : starEach [a] X.env = (false, eval a X.env) :: starEach [] X.env := by rfl) (hsw : swapsWith (.Call (.Attribute o "extend" apos) [a] [] p) none pos.line X.env = pure false := by rfl) :
    PS X (.Expr (.Call (.Attribute o "extend" apos) [a] [] p) pos) (tS c pn W (sExtO i ga)) :=
  imp_PS (ps_expr (pe_bm PySem.F.plainAttrs_list PySem.F.slot_list_extend PySem.F.type_list_extend mt_extend ho (pa_cons ha pa_nil hs) hbase hfew hline hs) hsw) fun D σ H ⟨ρ, F, er, z⟩ => by
    unfold sExtO at z
    by_cases h : ownAt ρ i = true
    · rw [if_pos h] at z
      obtain ⟨u, hu⟩ := ownAt_val er h
      obtain ⟨q0, vs0, e0, hq0⟩ : ∃ q vs, u = .ref q ∧ H q = some (.lst vs) := by
        unfold ownAt at h
        split at h
        · rename_i s hs'
          have z0 := er.slot i _ s hu hs'
          cases s with
          | un => cases h
          | fz v => cases h
          | ow xs => obtain ⟨p, vs, e, _, e2, _⟩ := z0; cases e; exact ⟨p, vs, rfl, e2⟩
          | bx n => obtain ⟨p, vs, e, _, e2, _⟩ := z0; cases e; exact ⟨p, vs, rfl, e2⟩
        · cases h
      subst e0
      refine ⟨.ref q0, hu, .inl ⟨rfl, _, SqL.of hq0⟩, tE_bindS er z fun v ρ1 w F1 H1 st rep h1 => ?_⟩
      dsimp only at h1
      cases hx : extV v ρ1[i]? with
      | none => rw [hx] at h1; exact h1.elim
      | some ys =>
        rw [hx] at h1
        unfold extV at hx
        split at hx
        · rename_i g zs xs hi
          split at hx
          · rename_i hz
            cases hx
            obtain ⟨q, vs, e1, hF, hH, r⟩ := st.2.ow hi
            rw [hu] at e1
            cases e1
            cases rep with
            | @lst b ws _ _ hb rb tb =>
              exact ⟨_, b, vs, ws, rfl, rfl, hH, st.2.sub _ _ hb, by rw [r.length, rb.length]; exact hz, h1 σ F1 _ (put_own st.2 hi hu hF hH (reps_app r rb))⟩
          · cases hx
        · cases hx
    · rw [if_neg h] at z
      exact z.elim
end
end VL

set_option Elab.async false
set_option linter.all false
set_option maxRecDepth 100000
set_option maxHeartbeats 1000000
/-! VL, part 31: a, b = a list. -/
namespace VL
open PySem PySem.Spec PyProof.Rows L2
def gL (is : List Nat) : GG := fun v ρ => match v with
  | .lst _ xs => if xs.length = is.length then setAll is xs ρ else none
  | _ => none
theorem tg_lst {c : Cn} {is : List Nat} {g : TGs} {K : PySem.W.Frag} (hk : c.K = K) (h : TgsOk c is g) : TgOk c is (gLst K is.length g) (gL is) := fun F H σ ρ ρ' x v Q er r e q => by
  cases r with
  | @lst a vs gg xs hF rs =>
    have e' : (if xs.length = is.length then setAll is xs ρ else none) = some ρ' := e
    by_cases hl : xs.length = is.length
    · rw [if_pos hl] at e'
      refine ⟨a, vs, rfl, SqL.of (er.sub _ _ hF), by rw [rs.length]; exact hl, tgs_run h er rs e' fun σ' er' ow hl nj => q σ' er' ow (wipe_eq hl nj) nj⟩
    · rw [if_neg hl] at e'
      cases e'
  | _ => cases e
end VL

set_option Elab.async false
set_option linter.all false
set_option maxRecDepth 100000
/-! VL, part 32: sorted, sorted(set(..)). -/
namespace VL
open PySem PySem.Spec PyProof.Rows L2
/-! ### plain sorting -/
section
variable {α : Type} {lt : α → α → Bool}
/-- a linear order -/
structure Lin (lt : α → α → Bool) : Prop where
  asym : ∀ x y, lt x y = true → lt y x = false
  tr : ∀ x y z, lt y x = false → lt z y = false → lt z x = false
  conn : ∀ x y, lt x y = false → lt y x = false → x = y
theorem Lin.irr (L : Lin lt) (x : α) : lt x x = false := by
  cases h : lt x x with
  | false => rfl
  | true => exact h ▸ L.asym x x h
theorem Lin.trans (L : Lin lt) {x y z : α} (h1 : lt x y = true) (h2 : lt y z = true) : lt x z = true := by
  cases h : lt x z with
  | true => rfl
  | false =>
    have a := L.tr y z x (L.asym _ _ h2) h
    rw [h1] at a
    cases a
def insS (lt : α → α → Bool) (x : α) : List α → List α
  | [] => [x]
  | y :: ys => if lt y x = true then y :: insS lt x ys else x :: y :: ys
def srt (lt : α → α → Bool) : List α → List α
  | [] => []
  | x :: xs => insS lt x (srt lt xs)
def insU (lt : α → α → Bool) (x : α) : List α → List α
  | [] => [x]
  | y :: ys => if lt y x = true then y :: insU lt x ys else if lt x y = true then x :: y :: ys else y :: ys
/-- sorted, each thing once -/
def srtU (lt : α → α → Bool) : List α → List α
  | [] => []
  | x :: xs => insU lt x (srtU lt xs)
theorem insS_perm (x : α) : ∀ l : List α, (insS lt x l).Perm (x :: l)
  | [] => .refl _
  | y :: ys => by
    unfold insS
    by_cases h : lt y x = true
    · rw [if_pos h]
      exact ((insS_perm x ys).cons y).trans (.swap x y ys)
    · rw [if_neg h]
theorem srt_perm : ∀ l : List α, (srt lt l).Perm l
  | [] => .refl _
  | x :: xs => (insS_perm x _).trans ((srt_perm xs).cons x)
theorem srt_len (l : List α) : (srt lt l).length = l.length := (srt_perm l).length_eq
theorem insS_pair (L : Lin lt) (x : α) : ∀ l : List α, l.Pairwise (fun a b => lt b a = false) → (insS lt x l).Pairwise (fun a b => lt b a = false)
  | [], _ => List.pairwise_singleton _ _
  | y :: ys, h => by
    obtain ⟨h1, h2⟩ := List.pairwise_cons.mp h
    unfold insS
    by_cases c : lt y x = true
    · rw [if_pos c]
      refine List.pairwise_cons.mpr ⟨fun z hz => ?_, insS_pair L x ys h2⟩
      rcases List.mem_cons.mp ((insS_perm x ys).mem_iff.mp hz) with e | e
      · rw [e]; exact L.asym _ _ c
      · exact h1 z e
    · rw [if_neg c]
      have c' : lt y x = false := by simpa using c
      refine List.pairwise_cons.mpr ⟨fun z hz => ?_, h⟩
      rcases List.mem_cons.mp hz with e | e
      · rw [e]; exact c'
      · exact L.tr x y z c' (h1 z e)
theorem srt_pair (L : Lin lt) : ∀ l : List α, (srt lt l).Pairwise (fun a b => lt b a = false)
  | [] => .nil
  | x :: xs => insS_pair L x _ (srt_pair L xs)
theorem sorted_uniq (L : Lin lt) : ∀ {a b : List α}, a.Perm b → a.Pairwise (fun x y => lt y x = false) → b.Pairwise (fun x y => lt y x = false) → a = b
  | [], b, p, _, _ => (List.nil_perm.mp p).symm
  | x :: xs, [], p, _, _ => absurd p.length_eq (by simp)
  | x :: xs, y :: ys, p, ha, hb => by
    obtain ⟨a1, a2⟩ := List.pairwise_cons.mp ha
    obtain ⟨b1, b2⟩ := List.pairwise_cons.mp hb
    have e : x = y := by
      rcases List.mem_cons.mp (p.mem_iff.mp List.mem_cons_self) with e | e
      · exact e
      · rcases List.mem_cons.mp (p.mem_iff.mpr List.mem_cons_self) with f | f
        · exact f.symm
        · exact L.conn _ _ (a1 y f |> fun q => by
            have r := b1 x e
            exact r) (a1 y f)
    subst e
    rw [sorted_uniq L (List.Perm.cons_inv p) a2 b2]
theorem insU_mem (L : Lin lt) (x z : α) : ∀ l : List α, z ∈ insU lt x l ↔ z = x ∨ z ∈ l
  | [] => by simp [insU]
  | y :: ys => by
    unfold insU
    by_cases c : lt y x = true
    · rw [if_pos c, List.mem_cons, List.mem_cons, insU_mem L x z ys]
      constructor
      · rintro (e | e | e)
        · exact .inr (.inl e)
        · exact .inl e
        · exact .inr (.inr e)
      · rintro (e | e | e)
        · exact .inr (.inl e)
        · exact .inl e
        · exact .inr (.inr e)
    · rw [if_neg c]
      by_cases d : lt x y = true
      · rw [if_pos d, List.mem_cons]
      · rw [if_neg d]
        have e : x = y := L.conn _ _ (by simpa using d) (by simpa using c)
        subst e
        rw [List.mem_cons]
        constructor
        · intro h; exact .inr h
        · rintro (h | h)
          · exact .inl h
          · exact h
theorem srtU_mem (L : Lin lt) (z : α) : ∀ l : List α, z ∈ srtU lt l ↔ z ∈ l
  | [] => Iff.rfl
  | x :: xs => by
    show z ∈ insU lt x (srtU lt xs) ↔ _
    rw [insU_mem L, srtU_mem L z xs, List.mem_cons]
theorem insU_pair (L : Lin lt) (x : α) : ∀ l : List α, l.Pairwise (fun a b => lt a b = true) → (insU lt x l).Pairwise (fun a b => lt a b = true)
  | [], _ => List.pairwise_singleton _ _
  | y :: ys, h => by
    obtain ⟨h1, h2⟩ := List.pairwise_cons.mp h
    unfold insU
    by_cases c : lt y x = true
    · rw [if_pos c]
      refine List.pairwise_cons.mpr ⟨fun z hz => ?_, insU_pair L x ys h2⟩
      rcases (insU_mem L x z ys).mp hz with e | e
      · rw [e]; exact c
      · exact h1 z e
    · rw [if_neg c]
      by_cases d : lt x y = true
      · rw [if_pos d]
        refine List.pairwise_cons.mpr ⟨fun z hz => ?_, h⟩
        rcases List.mem_cons.mp hz with e | e
        · rw [e]; exact d
        · exact L.trans d (h1 z e)
      · rw [if_neg d]; exact h
theorem srtU_pair (L : Lin lt) : ∀ l : List α, (srtU lt l).Pairwise (fun a b => lt a b = true)
  | [] => .nil
  | x :: xs => insU_pair L x _ (srtU_pair L xs)
theorem strict_uniq (L : Lin lt) : ∀ {a b : List α}, (∀ z, z ∈ a ↔ z ∈ b) → a.Pairwise (fun x y => lt x y = true) → b.Pairwise (fun x y => lt x y = true) → a = b
  | [], [], _, _, _ => rfl
  | [], y :: ys, m, _, _ => absurd ((m y).mpr List.mem_cons_self) (by simp)
  | x :: xs, [], m, _, _ => absurd ((m x).mp List.mem_cons_self) (by simp)
  | x :: xs, y :: ys, m, ha, hb => by
    obtain ⟨a1, a2⟩ := List.pairwise_cons.mp ha
    obtain ⟨b1, b2⟩ := List.pairwise_cons.mp hb
    have e : x = y := by
      rcases List.mem_cons.mp ((m x).mp List.mem_cons_self) with e | e
      · exact e
      · rcases List.mem_cons.mp ((m y).mpr List.mem_cons_self) with f | f
        · exact f.symm
        · have p := a1 y f
          have q := L.asym _ _ (b1 x e)
          rw [p] at q
          cases q
    subst e
    have n1 : x ∉ xs := fun h => by have := a1 x h; rw [L.irr] at this; cases this
    have n2 : x ∉ ys := fun h => by have := b1 x h; rw [L.irr] at this; cases this
    rw [strict_uniq L (fun z => ?_) a2 b2]
    constructor
    · intro hz
      rcases List.mem_cons.mp ((m z).mp (List.mem_cons_of_mem _ hz)) with e | e
      · exact absurd hz (e ▸ n1)
      · exact e
    · intro hz
      rcases List.mem_cons.mp ((m z).mpr (List.mem_cons_of_mem _ hz)) with e | e
      · exact absurd hz (e ▸ n2)
      · exact e
end
def ltI (a b : Int) : Bool := decide (a < b)
theorem linI : Lin ltI where
  asym x y h := decide_eq_false (by have := of_decide_eq_true h; omega)
  tr x y z h1 h2 := decide_eq_false (by have := of_decide_eq_false h1; have := of_decide_eq_false h2; omega)
  conn x y h1 h2 := by have := of_decide_eq_false h1; have := of_decide_eq_false h2; omega
theorem lex_conn : ∀ a b : List Int, HT.lexLt a b = false → HT.lexLt b a = false → a = b
  | [], [], _, _ => rfl
  | [], y :: ys, h, _ => by rw [HT.lexLt_nil_cons] at h; cases h
  | x :: xs, [], _, h => by rw [HT.lexLt_nil_cons] at h; cases h
  | x :: xs, y :: ys, h1, h2 => by
    rw [HT.lexLt_cons] at h1 h2
    by_cases e : x = y
    · rw [if_pos e] at h1
      rw [if_pos e.symm] at h2
      rw [e, lex_conn xs ys h1 h2]
    · rw [if_neg e] at h1
      rw [if_neg (fun q => e q.symm)] at h2
      have := of_decide_eq_false h1
      have := of_decide_eq_false h2
      omega
theorem linT : Lin HT.lexLt := ⟨fun x y h => NtL.lex_asym _ _ h, fun x y z h1 h2 => NtL.lex_tr _ _ _ h1 h2, lex_conn⟩
end VL

set_option Elab.async false
set_option linter.all false
set_option maxRecDepth 100000
/-! VL, part 33: sorted, sorted(set(..)): their calls. -/
namespace VL
open PySem PySem.Spec PyProof.Rows L2
section
variable {prog : Program} {w : World} {A : Around} {E : Value → Shared → Prop} {s : Shared} {Q : Bool → Shared → Prop}
theorem kat_lex {b : Bool} {u v : Nat} {xs ys : List Value} {ns ms : List Int} (i : Nat) (hx : IntsAre xs ns) (hy : IntsAre ys ms) (hl : ns.length + v = ms.length + u) (h : Q (HT.lexLt ns ms) s) :
    PySem.W.KatLex prog w A b (decide (u < v)) Q (xs.zip ys) i s := by
  induction hx generalizing ys ms i with
  | nil =>
    cases hy with
    | nil =>
      have e : decide (u < v) = false := decide_eq_false (by simp at hl; omega)
      rw [HT.lexLt_nil_nil] at h
      rw [e]
      exact PySem.W.kat_nil h
    | cons q t hy =>
      have e : decide (u < v) = true := decide_eq_true (by simp at hl; omega)
      rw [HT.lexLt_nil_cons] at h
      rw [e]
      exact PySem.W.kat_nil h
  | @cons p t xs ns hx ih =>
    cases hy with
    | nil =>
      have e : decide (u < v) = false := decide_eq_false (by simp at hl; omega)
      rw [HT.lexLt_cons_nil] at h
      rw [e]
      exact PySem.W.kat_nil h
    | @cons q t2 ys ms hy =>
      rw [HT.lexLt_cons] at h
      show PySem.W.KatLex prog w A b _ Q ((Value.int p t, Value.int q t2) :: xs.zip ys) i s
      refine PySem.W.kat_cons (wpAny_eqBool_int ?_)
      by_cases e : p = q
      · subst e
        rw [if_pos rfl] at h
        rw [beq_self_eq_true]
        exact PySem.W.kat_yes (ih (i + 1) hy (by simp at hl; omega) h)
      · rw [if_neg e] at h
        rw [show (p == q) = false from beq_eq_false_iff_ne.mpr e]
        exact PySem.W.kat_no (TS.oneLt_ints _ h)
theorem tups_first {h : Heap} (k : Value → List Int) : ∀ vs : List Value, (∀ v ∈ vs, TS.TupInts h v (k v) ∧ k v ≠ []) → ∃ fs, PySem.W.KatTups h vs fs ∧ fs.length = vs.length ∧ ∀ f ∈ fs, ∃ n t, f = Value.int n t
  | [], _ => ⟨[], PySem.W.KatTups.nil, rfl, fun f hf => by cases hf⟩
  | v :: vs, x => by
    obtain ⟨fs, q, hl, hi⟩ := tups_first k vs fun u hu => x u (List.mem_cons_of_mem _ hu)
    obtain ⟨⟨a, xs, rfl, ⟨o, ho, hc, n, hd⟩, i⟩, ne⟩ := x v List.mem_cons_self
    obtain ⟨y, ys, e⟩ : ∃ y ys, xs.toList = y :: ys := by
      cases z : xs.toList with
      | nil =>
        rw [z] at i
        cases i' : k (Value.ref a) with
        | nil => exact absurd i' ne
        | cons p r => rw [i'] at i; cases i
      | cons y ys => exact ⟨y, ys, rfl⟩
    obtain ⟨m, t, hy⟩ := i.all y (by rw [e]; exact List.mem_cons_self)
    refine ⟨y :: fs, PySem.W.KatTups.cons ho hc hd (by have z := congrArg (fun l : List Value => l[0]?) e; rw [Array.getElem?_toList] at z; exact z) q, congrArg Nat.succ hl, fun f hf => ?_⟩
    rcases List.mem_cons.mp hf with rfl | hf
    · exact ⟨m, t, hy⟩
    · exact hi f hf
theorem tups_sortable {a : Addr} {vs : List Value} {k : Value → List Int} (h2 : 2 ≤ vs.length) (hv : ∀ v ∈ vs, TS.TupInts s.heap v (k v) ∧ k v ≠ []) (ha : ∀ o, s.heap.get? a = some o → o.cls ≠ .type "tuple") :
    SrtO.SortableO prog w A s a vs fun v u => HT.lexLt (k v) (k u) := by
  intro h' keep
  have hv' : ∀ v ∈ vs, TS.TupInts h' v (k v) ∧ k v ≠ [] := fun v hm => ⟨(hv v hm).1.keeps fun b o e c => keep b o (fun z => by subst z; exact ha o e c) e, (hv v hm).2⟩
  obtain ⟨fs, f1, f2, f3⟩ := tups_first k vs hv'
  refine ⟨tuples' true, fun Q E hq => ?_, fun p q hp hq => ?_⟩
  · refine PySem.W.kat_kind (T := .type "int") f1 (by omega) (fun f hm => ?_) (by rfl) ?_
    · obtain ⟨x, t, rfl⟩ := f3 f hm
      exact PySem.W.Looks.now
    · rw [show (Value.type "int" != Value.type "tuple") = true by first | decide +kernel | rfl]
      exact hq
  · obtain ⟨a1, xs, e1, ⟨o1, g1, _, n1, d1⟩, i1⟩ := (hv' _ hp).1
    obtain ⟨a2, ys, e2, ⟨o2, g2, _, n2, d2⟩, i2⟩ := (hv' _ hq).1
    show wpAny (model prog w) A (keyLt' (tuples' true) p.1 q.1) (fun r s' => s' = _ ∧ r = HT.lexLt (k p.1) (k q.1)) (fun _ _ => False) _
    generalize k p.1 = ns at i1 ⊢
    generalize k q.1 = ms at i2 ⊢
    rw [e1, e2]
    refine PySem.W.kat_lt g1 d1 g2 d2 (kat_lex 0 i1 i2 ?_ ⟨rfl, rfl⟩)
    have l1 := i1.length
    have l2 := i2.length
    rw [Array.length_toList] at l1 l2
    omega
end
section
variable {X : Cx}
theorem vals_refs : ∀ {ts : List Addr} {us : List Value}, Vals (ts.map V.ref) us → us = ts.map Value.ref
  | [], _, .nil => rfl
  | t :: ts, _, .cons h q => by
    cases h
    rw [vals_refs q]
    rfl
theorem refs_vals : ∀ ts : List Addr, Vals (ts.map V.ref) (ts.map Value.ref)
  | [] => .nil
  | _ :: ts => .cons rfl (refs_vals ts)
/-- sorted(xs), xs a list of tuples of ints -/
def rSortTs (K : PySem.W.Frag) : List V → Hp → VK → Prop := fun vs H Q => ∃ (a : Addr) (ts : List Addr) (k : Addr → List Int), vs = [V.ref a] ∧ SqL K H a (ts.map V.ref) ∧ (∀ t ∈ ts, SqT K H t ((k t).map V.int)) ∧ (2 ≤ ts.length → ∀ t ∈ ts, k t ≠ []) ∧
  ∀ (ts' : List Addr) (p : Addr), ts'.Perm ts → ts'.Pairwise (fun x y => HT.lexLt (k y) (k x) = false) → H p = none → Q (.ref p) (upd H p (.lst (ts'.map V.ref)))
theorem adO_refs (ts : List Addr) : (ts.map Value.ref).map L2.adO = ts := L2.ad_map ts
theorem cr_sortTs : CallR X (.builtin "sorted") (rSortTs X.K) := by
  intro pins s σ H vs us Q I r h
  obtain ⟨a, ts, k, rfl, hs, hk, ne, q⟩ := h
  obtain ⟨its, rv, hl, hz⟩ := I.list hs
  obtain ⟨u, rfl, ru⟩ := vals1 r
  obtain rfl : u = Value.ref a := ru
  have ei := vals_refs rv
  have hzl : its.length ≤ sizeLine := by rw [← rv.length]; exact hz
  have tv : ∀ v ∈ its, TS.TupInts s.heap v (k (L2.adO v)) := fun v hv => by
    rw [ei] at hv
    obtain ⟨t, ht, rfl⟩ := List.mem_map.mp hv
    exact L2.tupI_raw I (hk t ht)
  refine SrtO.sorted_ord (ltv := fun v u => HT.lexLt (k (L2.adO v)) (k (L2.adO u))) (NtL.swo_lexL fun v => k (L2.adO v)) hl.isList hzl (fun h2 h₁ b hb kk => ?_) fun out hs' hb' => ?_
  · refine tups_sortable (s := { s with heap := h₁ }) h2 (fun v hv => ⟨(tv v hv).keeps fun c o e _ => (kk c o e).2, ?_⟩) fun o e => ?_
    · have hv' := hv
      rw [ei] at hv'
      obtain ⟨t, ht, rfl⟩ := List.mem_map.mp hv'
      refine ne ?_ t ht
      rw [ei, List.length_map] at h2
      exact h2
    · have e' : some o = some (seqObj "list" its.toArray 0) := e.symm.trans hb
      cases e'
      intro c
      exact absurd (Value.type.inj c) (by decide)
  · have hm : ∀ v ∈ out, ∃ t, v = Value.ref t := fun v hv => by
      have := hb'.perm.mem_iff.mp hv
      rw [ei] at this
      obtain ⟨t, _, e⟩ := List.mem_map.mp this
      exact ⟨t, e.symm⟩
    have eo : out = (out.map L2.adO).map Value.ref := L2.ref_map hm
    obtain ⟨n, hn⟩ := PyProof.Rows.sortedAll_at s.heap its out.toArray
    have pm : (out.map L2.adO).Perm ts := by
      have := hb'.perm.map L2.adO
      rw [ei, L2.ad_map] at this
      exact this
    have rvo : Vals ((out.map L2.adO).map V.ref) out := by
      have := refs_vals (out.map L2.adO)
      rw [← eo] at this
      exact this
    refine ⟨.ref (s.heap.objs.size + 1), upd H (s.heap.objs.size + 1) (.lst ((out.map L2.adO).map V.ref)), I.laid (t' := s.toks) (fun b o e => PyProof.Rows.sortedAll_old e) (Nat.le_succ _) ⟨?_, out, n, rvo, hn⟩, rfl, q _ _ pm ?_ (I.hok.fresh (Nat.le_succ _))⟩
    · rw [List.length_map, pm.length_eq]
      have := hz
      rw [List.length_map] at this
      exact this
    · exact List.pairwise_map.mpr (hs'.imp fun {x y} z => z)
end
end VL

set_option Elab.async false
set_option linter.all false
set_option maxRecDepth 100000
set_option maxHeartbeats 4000000
/-! VL, part 34: sorted(set(..)). -/
namespace VL
open PySem PySem.Spec PyProof.Rows L2
section
variable {P : Program} {w : World} {A : Around} {E : Value → Shared → Prop} {s : Shared}
abbrev set0 (w : World) : Obj := { cls := .type "set", dict := none, data := .set #[] 0 (.fresh 0 0 (!w.params.followText "set-order")) }
theorem none_above {h : Heap} {b : Addr} (hb : h.objs.size ≤ b) : h.get? b = none := by
  cases q : h.get? b with
  | none => rfl
  | some o => exact absurd (Nat.lt_of_lt_of_le (Heap.lt_size q) hb) (Nat.lt_irrefl _)
/-- set(xs), xs a list of ints -/
theorem set_lstI {l : Addr} {its : Array Value} (ns : List Int) {Q : Value → Shared → Prop} (hh : A.handled = none) (hl : s.heap.IsList l its) (hi : IntsAre its.toList ns) (hb : ns.length + 1 < scanBound)
    (h : ∀ (h' : Heap) (tk c : Nat), SetR w h' s.heap.objs.size (fun j => decide (j ∈ ns)) c → c ≤ ns.length → (∀ b o, s.heap.get? b = some o → h'.get? b = some o) → Q (.ref s.heap.objs.size) { s with heap := h', toks := tk }) :
    wpAny (model P w) A (call (.type "set") [.ref l]) Q E s := by
  have z : its.size = ns.length := by have := hi.length; rw [Array.length_toList] at this; exact this
  obtain ⟨c, tl, hmro⟩ := F.called_set.mro
  have m1 := F.called_set.made
  have m2 := F.called_set.sub
  have m3 := F.called_set.notType
  have m4 := F.called_set.canCreate
  have m5 := F.typeCall_set_1 (.ref l)
  refine wpAny_call (codeAny_of_tree ?_)
  show wpAny _ _ (callAny (.type "set") _) _ _ _
  refine wpAny_pure ⟨Code.quiet_builtin _ (by decide +kernel), codeAny_builtin F.entry_type_call ?_⟩
  rw [Around.under_plain (weight_type_call_type "set" [.ref l] []) rfl]
  repeat (any_goals (first | assumption | wp_step))
  refine codeAny_mono (code_set_led1 (.ref l) (E := E) (Q₁ := fun ob s₁ => ob = .ref s.heap.objs.size ∧ s₁ = { s with heap := s.heap.push (set0 w) }) ⟨rfl, rfl⟩) fun r s₁ hr => ?_
  match r, hr with
  | .error e, hr => exact hr
  | .ok (.ret ob), hr =>
    obtain ⟨rfl, rfl⟩ := hr
    have gS : (s.heap.push (set0 w)).get? s.heap.objs.size = some (set0 w) := Heap.get?_push_size _ rfl
    have tS : Shared.TypeIs { s with heap := s.heap.push (set0 w) } (.ref s.heap.objs.size) "set" := ⟨_, gS, rfl⟩
    have i1 := F.called_set.init.lookup
    have i2 := F.called_set.init.bind (.ref s.heap.objs.size)
    repeat (any_goals (first | assumption | wp_step))
    refine codeAny_mono (codeAny_call_builtin (R := wants (fun r s₂ => r = .none ∧ ∃ h' tk c, s₂ = { s with heap := h', toks := tk } ∧ SetR w h' s.heap.objs.size (fun j => decide (j ∈ ns)) c ∧ c ≤ ns.length ∧ ∀ b o, s.heap.get? b = some o → h'.get? b = some o) E)
      F.called_set.init.plain F.entry_set_init (check_set_init_1 tS ?_)) fun r₂ s₂ hr₂ => ?_
    · obtain ⟨⟨ocls, odict, odata, oslots⟩, hol, hcl, nl, hdl⟩ := hl
      simp only at hcl hdl
      subst hcl hdl
      have gl : (s.heap.push (set0 w)).get? l = some { cls := .type "list", dict := odict, data := .seq its nl, slots := oslots } := Heap.get?_push_of_some _ hol
      have b1 := F.sub_list_set
      have b2 := F.sub_list_frozenset
      have b3 : (Value.type "list" == Value.type "dict") = false := by decide
      have pl : (s.heap.push (set0 w)).IsList l its := ⟨_, gl, rfl, nl, rfl⟩
      unfold Builtin.«set.__init__» noKeywords Builtin.Frozenset.updateFrom
      generalize eP : pyIter = PI
      wp_walk
      subst eP
      refine wpAny_pyIter_list pl (wpAny_bind (wpAny_runValue ?_))
      have lt : l < s.heap.objs.size := Heap.lt_size hol
      have sz : (s.heap.push (set0 w)).objs.size = s.heap.objs.size + 1 := Heap.size_push ..
      have nI : l ≠ (s.heap.push (set0 w)).objs.size := by rw [sz]; exact Nat.ne_of_lt (Nat.lt_succ_of_lt lt)
      have nS : s.heap.objs.size ∉ [(s.heap.push (set0 w)).objs.size, l] := by
        rw [sz]
        intro hm
        rcases List.mem_cons.mp hm with e | e
        · exact absurd e (Nat.ne_of_lt (Nat.lt_succ_self _))
        · rw [List.mem_singleton] at e
          exact absurd e (Nat.ne_of_gt lt)
      refine set_update_ints ((Walks.list (show A.in1.in1.in1.handled = none by simp [hh]) _ l nI its).toS) s.heap.objs.size nS ns z hb (fun i v hv => ?_) (its.size - 0) 0 _ (by omega) (Nat.zero_le _)
        ⟨⟨_, Heap.get?_push_size _ rfl, rfl, rfl⟩, pl.push _⟩ ⟨0, Nat.le_refl 0, setR_new_at (Heap.get?_push_of_some _ gS)⟩ fun s' c' hm hc' hS' => ?_
      · have hi' : i < ns.length := by rw [← z]; exact (Array.getElem?_eq_some_iff.mp hv).1
        obtain ⟨t, e⟩ := IntsAre.int_at hi i v (by rw [Array.getElem?_toList]; exact hv)
        exact ⟨ns[i], t, List.getElem?_eq_getElem hi', by rw [e, List.getD_eq_getElem?_getD, List.getElem?_eq_getElem hi'] <;> rfl⟩
      · obtain ⟨h', g2, d', tk', os'⟩ := s'
        obtain rfl : g2 = s.gens := hm.gens
        obtain rfl : d' = s.drawn := hm.drawn
        obtain rfl : os' = s.os := hm.os
        rw [z] at hc'
        show wpAny _ _ _ _ _ _
        refine wpAny_pure ?_
        show wpAny _ _ (ret Value.none) _ _ _
        refine wpAny_pure ⟨rfl, h', tk', c', rfl, hS', hc', fun b o e => hm.heap b o (fun hb' => ?_) (Heap.get?_push_of_some _ (Heap.get?_push_of_some _ e))⟩
        have lb := Heap.lt_size e
        rcases List.mem_cons.mp hb' with q | q
        · exact absurd q (Nat.ne_of_lt lb)
        · rw [List.mem_singleton, sz] at q
          exact absurd q (Nat.ne_of_lt (Nat.lt_succ_of_lt lb))
    · match r₂, hr₂ with
      | .error e, hr₂ => exact hr₂
      | .ok (.ret r), hr₂ =>
        obtain ⟨rfl, h', tk, c', rfl, q1, q2, q3⟩ := hr₂
        repeat (any_goals (first | assumption | wp_step))
        exact h _ _ _ q1 q2 q3
end
end VL

set_option Elab.async false
set_option linter.all false
set_option maxRecDepth 100000
set_option maxHeartbeats 4000000
/-! VL, part 35: sorted(set(..)), its reading. -/
namespace VL
open PySem PySem.Spec PyProof.Rows L2
section
variable {P : Program} {w : World} {A : Around} {E : Value → Shared → Prop} {s : Shared}
/-- sorted(found), found a set of tuples of ints -/
theorem sorted_setLex {a : Addr} {L : List (Addr × List Int)} {es : Array (Int × Value)} {ep : Nat} {t : SetTable} {Q : Value → Shared → Prop} (R : SetTR P w s.heap a L es ep t) (hh : A.handled = none) (ne : 2 ≤ L.length → ∀ p ∈ L, p.2 ≠ [])
    (hQ : ∀ s' p (out : Array Value) (c : Nat) (L' : List (Addr × List Int)), (∀ b o, s.heap.get? b = some o → s'.heap.get? b = some o) → s'.gens = s.gens → s'.os = s.os → s.heap.objs.size ≤ p → s'.heap.get? p = some (seqObj "list" out c) →
      out.toList = L'.map (fun q => Value.ref q.1) → L'.Perm L → L'.Pairwise (fun q r => HT.lexLt r.2 q.2 = false) → Q (.ref p) s') :
    wpAny (model P w) A (call (.builtin "sorted") [.ref a]) Q E s := by
  obtain ⟨o, ho, hex, hd⟩ := R.ob
  have few := R.few
  have esz := R.size
  refine Calls.call_function_entry kind_sorted plain_sorted entry_sorted (args_sorted1 _) ?_
  unfold Builtin.«sorted»
  refine wpAny_bind (m := checkCount "sorted" 1 1 _) (wpAny_pure (wpAny_bind (L2.collect_set (A := A.in1) hh ⟨o, ho, hex.1, hd⟩ R.fits (by unfold scanBound; omega) R.tab.ris R.led fun s1 vs k1 hz g1 o1 pm => ?_)))
  have ee : es.toList.map (·.2) = L.map fun q => Value.ref q.1 := by
    rw [R.rows]
    simp [rowsOf, List.map_map, Function.comp_def]
  rw [ee] at pm
  -- each value is one row's
  have key : ∀ q ∈ L, TS.intsOf s.heap (.ref q.1) = q.2 := fun q hq => (tupInts_of (P := P) (w := w) (R.tup q hq)).ints
  have one : ∀ q ∈ L, ∀ r ∈ L, q.1 = r.1 → q = r := fun q hq r hr e => Prod.ext e (by rw [← key q hq, ← key r hr, e])
  have pick : ∀ us : List Value, (∀ v ∈ us, v ∈ L.map fun q => Value.ref q.1) → ∃ L1 : List (Addr × List Int), us = L1.map (fun q => Value.ref q.1) ∧ ∀ q ∈ L1, q ∈ L := by
    intro us
    induction us with
    | nil => exact fun _ => ⟨[], rfl, fun q hq => absurd hq (by simp)⟩
    | cons v us ih =>
      intro hv
      obtain ⟨q, hq, e⟩ := List.mem_map.mp (hv v List.mem_cons_self)
      obtain ⟨L1, e1, h1⟩ := ih fun u hu => hv u (List.mem_cons_of_mem _ hu)
      refine ⟨q :: L1, by rw [e1, List.map_cons, ← e], fun r hr => ?_⟩
      rcases List.mem_cons.mp hr with z | z
      · rw [z]; exact hq
      · exact h1 r z
  have vl : vs.length < 64 := by rw [pm.length_eq, List.length_map]; exact few
  have ho2 : (s1.heap.push (seqObj "list" vs.toArray 0)).get? s1.heap.objs.size = some (seqObj "list" vs.toArray 0) := Heap.get?_push_size _ rfl
  have tk : ∀ v ∈ vs, ∃ q ∈ L, v = .ref q.1 ∧ TS.TupInts (s1.heap.push (seqObj "list" vs.toArray 0)) v (TS.intsOf s.heap v) ∧ TS.intsOf s.heap v = q.2 := fun v hv => by
    obtain ⟨q, hq, rfl⟩ := List.mem_map.mp (pm.mem_iff.mp hv)
    refine ⟨q, hq, rfl, ?_, key q hq⟩
    rw [key q hq]
    exact (tupInts_of (P := P) (w := w) (R.tup q hq)).keeps fun b u e _ => Heap.get?_push_of_some _ (k1 b u e)
  refine wpAny_bind (wpAny_newList ?_ (by rw [sizeLine_eq]; omega))
  refine wpAny_bind (wpAny_holding (wpAny_call_entry slot_list_sort ⟨_, ho2, rfl⟩ entry_list_sort (SrtO.list_sort_ord (s := { s1 with heap := s1.heap.push (seqObj "list" vs.toArray 0) }) (ltv := fun v u => HT.lexLt (TS.intsOf s.heap v) (TS.intsOf s.heap u))
    (NtL.swo_lexL fun v => TS.intsOf s.heap v) ho2 (by rw [sizeLine_eq]; omega) (fun h2 => tups_sortable h2 (fun v hv => ?_) fun u e => ?_) fun out hs hb => ⟨_, rfl, ?_⟩) (args_list_sort _)))
  · obtain ⟨q, hq, _, t1, t2⟩ := tk v hv
    refine ⟨t1, ?_⟩
    rw [t2]
    exact ne (by rw [pm.length_eq, List.length_map] at h2; exact h2) q hq
  · have e2 : some u = some (seqObj "list" vs.toArray 0) := e.symm.trans ho2
    cases e2
    intro c
    exact absurd (Value.type.inj c) (by decide)
  · obtain ⟨L', e', s'⟩ := pick out fun v hv => pm.mem_iff.mp (hb.perm.mem_iff.mp hv)
    obtain ⟨c, hc⟩ := sortedHeap_at (vs := vs) (out := out.toArray) ho2
    have nL : L.Nodup := nodup_of_map R.nd
    have nr : (L.map fun q => Value.ref q.1).Nodup := List.pairwise_map.mpr (nL.imp_of_mem fun {q r} hq hr d e => d (one q hq r hr (Value.ref.inj e)))
    have pp : (L'.map fun q => Value.ref q.1).Perm (L.map fun q => Value.ref q.1) := by rw [← e']; exact hb.perm.trans pm
    have n1 : L'.Nodup := nodup_of_map (pp.nodup_iff.mpr nr)
    have pL : L'.Perm L := (List.perm_ext_iff_of_nodup n1 nL).mpr fun q => ⟨s' q, fun hq => by
      obtain ⟨r, hr, e⟩ := List.mem_map.mp (pp.mem_iff.mpr (List.mem_map.mpr ⟨q, hq, rfl⟩))
      rw [← one r (s' r hr) q hq (Value.ref.inj e)]
      exact hr⟩
    have pw : L'.Pairwise (fun q r => HT.lexLt r.2 q.2 = false) := by
      rw [e'] at hs
      refine (List.pairwise_map.mp hs).imp_of_mem fun {q r} hq hr z => ?_
      rw [← key q (s' q hq), ← key r (s' r hr)]
      exact z
    refine wpAny_pure ⟨_, rfl, hQ _ s1.heap.objs.size out.toArray c L' (fun b u e => ?_) g1 o1 hz hc (by simpa using e') pL pw⟩
    have e3 := k1 b u e
    have lt := Heap.lt_size e3
    show (sortedHeap (s1.heap.push (seqObj "list" vs.toArray 0)) s1.heap.objs.size vs out.toArray).get? b = some u
    rw [sortedHeap_old (Nat.ne_of_lt lt) (by rw [size_push']; exact Nat.lt_succ_of_lt lt)]
    exact Heap.get?_push_of_some _ e3
end
section
variable {X : Cx}
def rSetI (K : PySem.W.Frag) (w : World) : List V → Hp → VK → Prop := fun xs H Q => ∃ (l : Addr) (ns : List Int), xs = [V.ref l] ∧ (SqL K H l (ns.map V.int) ∨ SqT K H l (ns.map V.int)) ∧ ns.length + 1 < scanBound ∧
  ∀ p c, H p = none → c ≤ ns.length → Q (.ref p) (upd H p (SetO w p (fun j => decide (j ∈ ns)) c))
theorem cr_setI (hc : X.calm = true) : CallR X (.type "set") (rSetI X.K X.w) := by
  intro pins s σ H xs us Q I r h
  obtain ⟨l, ns, rfl, hl, hb, q⟩ := h
  rw [Vals.ref1 r]
  have hn : H s.heap.objs.size = none := I.hok.fresh (Nat.le_refl _)
  rcases hl with hl | hl
  · obtain ⟨its, rv, pl, hz⟩ := I.list hl
    refine set_lstI (P := X.prog) (w := X.w) ns (I.ok.hd hc) pl.isList (by simpa using rv.ints) hb fun h' tk c R hc' k => ?_
    exact ⟨.ref s.heap.objs.size, upd H s.heap.objs.size (SetO X.w s.heap.objs.size (fun j => decide (j ∈ ns)) c), I.laid (t' := tk) k (Nat.le_refl _) (setO_new R), rfl, q _ c hn hc'⟩
  · obtain ⟨its, rv, pl, hz⟩ := I.tuple hl
    obtain ⟨o, ho, hcl, n, hd⟩ := pl
    refine call_set_tupI (P := X.prog) (w := X.w) (items := its.toArray) ns (I.ok.hd hc) ⟨o, ho, hcl, n, hd⟩ (by simpa using rv.ints) hb fun h' tk c R hc' k => ?_
    exact ⟨.ref s.heap.objs.size, upd H s.heap.objs.size (SetO X.w s.heap.objs.size (fun j => decide (j ∈ ns)) c), I.laid (t' := tk) k (Nat.le_refl _) (setO_new R), rfl, q _ c hn hc'⟩
def rSortSL (K : PySem.W.Frag) (P : Program) (w : World) : List V → Hp → VK → Prop := fun vs H Q => ∃ (a : Addr) (L : List (Addr × List Int)), vs = [V.ref a] ∧ H a = some (SetTO P w a L) ∧ (∀ p ∈ L, SqT K H p.1 (p.2.map V.int)) ∧ ((L.map (·.2)).Nodup → 2 ≤ L.length → ∀ p ∈ L, p.2 ≠ []) ∧
  ∀ (L' : List (Addr × List Int)) (p : Addr), L'.Perm L → (L'.map (·.2)).Nodup → L'.Pairwise (fun q r => HT.lexLt r.2 q.2 = false) → H p = none → Q (.ref p) (upd H p (.lst (L'.map fun q => V.ref q.1)))
theorem cr_sortSL (hc : X.calm = true) : CallR X (.builtin "sorted") (rSortSL X.K X.prog X.w) := by
  intro pins s σ H vs us Q I r h
  obtain ⟨a, L, rfl, ha, hk, ne, q⟩ := h
  have R0 : SetT0 X.prog X.w s.heap a L := (I.hok a _ ha).1
  obtain ⟨es, ep, t, R⟩ := R0.full fun p hp => I.isT (hk p hp)
  rw [Vals.ref1 r]
  refine sorted_setLex R (I.ok.hd hc) (ne R.nd) fun s' p out c L' k g o hp hg hout pm pw => ?_
  have few : L'.length < 64 := by rw [pm.length_eq]; exact R.few
  have hn : H p = none := I.hok.fresh hp
  have J : Inv X pins σ (upd H p (.lst (L'.map fun q => V.ref q.1))) { s with heap := s'.heap, gens := s'.gens, drawn := s'.drawn, toks := s'.toks } :=
    I.call (ch := []) (Un.laid k hp hn) (I.hok.laid k hp ⟨by rw [List.length_map, sizeLine_eq]; omega, out.toList, c, by rw [hout]; exact vals_of_refs L', hg⟩) (by rw [g]; exact I.bare) (fun _ z => nomatch z)
  have e : s' = { s with heap := s'.heap, gens := s'.gens, drawn := s'.drawn, toks := s'.toks } := by
    obtain ⟨h1, h2, h3, h4, h5⟩ := s'
    obtain rfl : h5 = s.os := o
    rfl
  rw [e]
  exact ⟨.ref p, _, J, rfl, q L' p pm ((pm.map (·.2)).nodup_iff.mpr R.nd) pw hn⟩
end
end VL

set_option Elab.async false
set_option linter.all false
set_option maxRecDepth 100000
set_option maxHeartbeats 4000000
/-! VL, part 36: sorted, sorted(set(..)) as new lists. -/
namespace VL
open PySem PySem.Spec PyProof.Rows L2
def tupI : PV → Option (List Int)
  | .tup xs => intsOf xs
  | _ => none
def tupsI : List PV → Option (List (List Int))
  | [] => some []
  | x :: xs => (tupI x).bind fun t => (tupsI xs).map fun ts => t :: ts
def tupP (t : List Int) : PV := .tup (t.map .int)
def okT (l : List (List Int)) : Bool := decide (l.length < 2) || l.all fun t => !t.isEmpty
/-- sorted(set(x)) -/
def lSS : PV → Option (List PV)
  | .lst _ xs => if xs.length < 64 then (match intsOf xs with
    | some ns => some ((srtU ltI ns).map .int)
    | none => match tupsI xs with
      | some ts => if okT (srtU HT.lexLt ts) = true then some ((srtU HT.lexLt ts).map tupP) else none
      | none => none) else none
  | .tup xs => if xs.length < 64 then (match intsOf xs with
    | some ns => some ((srtU ltI ns).map .int)
    | none => none) else none
  | _ => none
/-- sorted(x) -/
def lSrt : PV → Option (List PV)
  | .lst _ xs => match intsOf xs with
    | some ns => some ((srt ltI ns).map .int)
    | none => match tupsI xs with
      | some ts => if okT ts = true then some ((srt HT.lexLt ts).map tupP) else none
      | none => none
  | _ => none
theorem okT_ok {l : List (List Int)} (h : okT l = true) (h2 : 2 ≤ l.length) : ∀ t ∈ l, t ≠ [] := by
  unfold okT at h
  rcases Bool.or_eq_true_iff.mp h with h | h
  · have := of_decide_eq_true h
    omega
  · intro t ht e
    have := List.all_eq_true.mp h t ht
    rw [e] at this
    cases this
theorem callR_or {X : Cx} {f : Value} {r1 r2 : List V → Hp → VK → Prop} (h1 : CallR X f r1) (h2 : CallR X f r2) : CallR X f fun xs H Q => r1 xs H Q ∨ r2 xs H Q := by
  intro pins s σ H vs us Q I r h
  rcases h with h | h
  · exact h1 pins s σ H vs us Q I r h
  · exact h2 pins s σ H vs us Q I r h
variable {c : Cn} {X : Cx} {W : WX} {a : Expr} {ga : GE} {p p2 q pos : Pos}
theorem tups_rep {F : Hp} : ∀ {vs : List V} {xs : List PV} {ts : List (List Int)}, Reps c F vs xs → tupsI xs = some ts → ∃ ks : List (Addr × List Int), vs = (ks.map fun p => V.ref p.1) ∧ ts = ks.map (·.2) ∧ ∀ p ∈ ks, F p.1 = some (.tup (p.2.map V.int))
  | _, _, _, .nil, e => by cases e; exact ⟨[], rfl, rfl, fun p hp => by cases hp⟩
  | _, _, _, .cons (x := x) (xs := xs) h r, e => by
    unfold tupsI at e
    cases ex : tupI x with
    | none => rw [ex] at e; cases e
    | some t =>
      rw [ex] at e
      cases er : tupsI xs with
      | none => rw [er] at e; cases e
      | some ts =>
        rw [er] at e
        cases e
        obtain ⟨ks, rfl, rfl, hk⟩ := tups_rep r er
        cases h with
        | @tup b ws ys hb rb =>
          have eb := intsOf_ok rb ex
          subst eb
          exact ⟨(b, t) :: ks, rfl, rfl, fun q hq => (List.mem_cons.mp hq).elim (fun e => e ▸ hb) (hk q)⟩
        | _ => cases ex
theorem tupP_rep {F : Hp} : ∀ {ks : List (Addr × List Int)}, (∀ p ∈ ks, F p.1 = some (.tup (p.2.map V.int))) → Reps c F (ks.map fun p => V.ref p.1) ((ks.map (·.2)).map tupP)
  | [], _ => .nil
  | p :: ks, h => .cons (.tup (h p List.mem_cons_self) (Reps.ofInts _)) (tupP_rep fun q hq => h q (List.mem_cons_of_mem _ hq))
/-- a call that lays something ahead of its new list -/
def OlG (c : Cn) (f : PV → Option (List PV)) (r : V → Hp → VK → Prop) : Prop := ∀ (F H : Hp) (x : V) (a : PV) (v : List PV) (Q : VK), Same F H → Rep c F x a → f a = some v →
  (∀ ws H', Grow F H F H' → Reps c F ws v → ∀ p, H' p = none → Q (.ref p) (upd H' p (.lst ws))) → r x H Q
theorem OlG.use {f : PV → Option (List PV)} {r : V → Hp → VK → Prop} (hf : OlG c f r) {σ : St} {H : Hp} {Q : VK} (z : tL c W (lOp1 f ga) σ H Q) : tE c W ga σ H fun x H1 => r x H1 Q := by
  obtain ⟨ρ, F, er, z⟩ := z
  refine tE_bind er z fun v ρ1 w F1 H1 st rep h1 => ?_
  obtain ⟨q, e, h1⟩ := lift'_run h1
  exact hf F1 H1 w v q Q st.2.sub rep e fun ws H' g r p hp => laidL (st.trans (g.stpE st.2)) h1 hp r
/-- the reading of sorted(set(x)) -/
def rSS (K : PySem.W.Frag) (P : Program) (w : World) : V → Hp → VK → Prop := fun x H Q => rSetI K w [x] H (fun y H1 => rSortedSet w [y] H1 Q) ∨ rSetOfT K P w [x] H fun y H1 => rSortSL K P w [y] H1 Q
theorem strict_of {l : List (List Int)} (nd : l.Nodup) (h : l.Pairwise fun q r => HT.lexLt r q = false) : l.Pairwise fun q r => HT.lexLt q r = true := by
  induction l with
  | nil => exact .nil
  | cons x xs ih =>
    obtain ⟨n1, n2⟩ := List.nodup_cons.mp nd
    obtain ⟨h1, h2⟩ := List.pairwise_cons.mp h
    refine List.pairwise_cons.mpr ⟨fun y hy => ?_, ih n2 h2⟩
    cases e : HT.lexLt x y with
    | true => rfl
    | false => exact absurd hy (linT.conn _ _ e (h1 y hy) ▸ n1)
theorem int_rep {F : Hp} {ns : List Int} {b : Addr} {vs : List V} {xs : List PV} (r : Reps c F vs xs) (e : intsOf xs = some ns) : vs = ns.map V.int := intsOf_ok r e
theorem o_SS (hk : c.K = X.K) : OlG c lSS (rSS X.K X.prog X.w) := fun F H x a v Q s ra e q => by
  rw [← hk]
  have doI : ∀ ns : List Int, ns.length < 64 → ((srtU ltI ns).map PV.int) = v → ∀ l, (SqL c.K H l (ns.map V.int) ∨ SqT c.K H l (ns.map V.int)) → rSetI c.K X.w [.ref l] H fun y H1 => rSortedSet X.w [y] H1 Q := by
    intro ns hz ev l hl
    refine ⟨l, ns, rfl, hl, by unfold scanBound; omega, fun d n hd hn => ⟨d, _, n, rfl, upd_same, by omega, fun ns' p2 h1 h2 _ h3 => ?_⟩⟩
    have e2 : ns' = srtU ltI ns := strict_uniq linI (fun z => by rw [srtU_mem linI, h2 z, decide_eq_true_iff]) (h1.imp fun h => decide_eq_true h) (srtU_pair linI ns)
    subst ev
    rw [e2]
    exact q _ _ (upd_growH s hd) (Reps.ofInts _) p2 h3
  cases ra with
  | @lst b vs g xs h r t =>
    have e' : (if xs.length < 64 then (match intsOf xs with
      | some ns => some ((srtU ltI ns).map PV.int)
      | none => match tupsI xs with
        | some ts => if okT (srtU HT.lexLt ts) = true then some ((srtU HT.lexLt ts).map tupP) else none
        | none => none) else none) = some v := e
    by_cases hz : xs.length < 64
    · rw [if_pos hz] at e'
      cases ei : intsOf xs with
      | some ns =>
        rw [ei] at e'
        have ev := intsOf_ok r ei
        have hl : ns.length < 64 := by have := r.length; rw [ev, List.length_map] at this; omega
        exact .inl (doI ns hl (Option.some.inj e') b (.inl (by rw [← ev]; exact SqL.of (s _ _ h))))
      | none =>
        rw [ei] at e'
        cases et : tupsI xs with
        | none => rw [et] at e'; cases e'
        | some ts =>
          rw [et] at e'
          dsimp only at e'
          by_cases ho : okT (srtU HT.lexLt ts) = true
          · rw [if_pos ho] at e'
            obtain ⟨ks, rfl, rfl, hk⟩ := tups_rep r et
            have hl : ks.length < 64 := by have := r.length; rw [List.length_map] at this; omega
            refine .inr ⟨b, ks, rfl, SqL.of (s _ _ h), fun p hp => SqT.of (s _ _ (hk p hp)), hl, fun d L hd h1 h2 => ⟨d, L, rfl, upd_same, fun p hp => ?_, fun h3 hp p hpL => ?_, fun L' p2 pm nd pw hn => ?_⟩⟩
            · exact SqT.of (by rw [upd_ne (ne_of_none (s _ _ (hk p (h1 p hp))) hd)]; exact s _ _ (hk p (h1 p hp)))
            · refine okT_ok ho ?_ _ ((srtU_mem linT _ _).mpr (List.mem_map.mpr ⟨p, h1 p hpL, rfl⟩))
              have sub : ∀ z, z ∈ srtU HT.lexLt (ks.map (·.2)) ↔ z ∈ L.map (·.2) := fun z => by
                rw [srtU_mem linT]
                constructor
                · intro m
                  obtain ⟨y, hy, rfl⟩ := List.mem_map.mp m
                  exact h2 y hy
                · intro m
                  obtain ⟨y, hy, rfl⟩ := List.mem_map.mp m
                  exact List.mem_map.mpr ⟨y, h1 y hy, rfl⟩
              have n2 : (srtU HT.lexLt (ks.map (·.2))).Nodup := (srtU_pair linT _).imp fun {x y} h e => by rw [e, linT.irr] at h; cases h
              have pl := ((List.perm_ext_iff_of_nodup n2 h3).mpr sub).length_eq
              rw [pl, List.length_map]
              exact hp
            · have pk : ∀ p ∈ L', F p.1 = some (.tup (p.2.map V.int)) := fun p hp => hk p (h1 p (pm.mem_iff.mp hp))
              have e3 : L'.map (·.2) = srtU HT.lexLt (ks.map (·.2)) := strict_uniq linT (fun z => by
                rw [srtU_mem linT]
                constructor
                · intro m
                  obtain ⟨y, hy, rfl⟩ := List.mem_map.mp m
                  exact List.mem_map.mpr ⟨y, h1 y (pm.mem_iff.mp hy), rfl⟩
                · intro m
                  obtain ⟨y, hy, rfl⟩ := List.mem_map.mp m
                  obtain ⟨u, hu, eu⟩ := List.mem_map.mp (h2 y hy)
                  exact List.mem_map.mpr ⟨u, pm.mem_iff.mpr hu, eu⟩) (strict_of nd (List.pairwise_map.mpr pw)) (srtU_pair linT _)
              cases e'
              rw [← e3] at q
              exact q _ _ (upd_growH s hd) (tupP_rep pk) p2 hn
          · rw [if_neg ho] at e'; cases e'
    · rw [if_neg hz] at e'; cases e'
  | @tup b vs xs h r =>
    have e' : (if xs.length < 64 then (match intsOf xs with
      | some ns => some ((srtU ltI ns).map PV.int)
      | none => none) else none) = some v := e
    by_cases hz : xs.length < 64
    · rw [if_pos hz] at e'
      cases ei : intsOf xs with
      | some ns =>
        rw [ei] at e'
        have ev := intsOf_ok r ei
        have hl : ns.length < 64 := by have := r.length; rw [ev, List.length_map] at this; omega
        exact .inl (doI ns hl (Option.some.inj e') b (.inr (by rw [← ev]; exact SqT.of (s _ _ h))))
      | none => rw [ei] at e'; cases e'
    · rw [if_neg hz] at e'; cases e'
  | _ => cases e
theorem vl_sortSet (hk : c.K = X.K) (hc : X.calm = true) (hu : X.A.units + 64 < cLine) (hg : Gl X "sorted") (hm : X.mg "sorted" = none) (hg2 : Gl X "set") (hm2 : X.mg "set" = none) (ha : PE X a (tE c W ga))
    (he : starEach [a] X.env = (false, eval a X.env) :: starEach [] X.env := by rfl) (he2 : starEach [.Call (.Name "set" p2) [a] [] q] X.env = (false, eval (.Call (.Name "set" p2) [a] [] q) X.env) :: starEach [] X.env := by rfl) :
    PE X (.Call (.Name "sorted" p) [.Call (.Name "set" p2) [a] [] q] [] pos) (tL c W (lOp1 lSS ga)) :=
  imp_PE (pe_callB (callR_or (cr_sortedSet hc) (cr_sortSL hc)) hg hm PyProof.Rows.boot_sorted (pa_cons (pe_callTy (callR_or (cr_setI hc) (cr_setOfT hc hu)) hg2 hm2 PyProof.Rows.boot_set (pa_cons ha pa_nil he) (by decide) (by decide) he) pa_nil he2) (by decide) (by decide) he2) fun σ H Q z => by
    obtain ⟨ρ, F, er, z⟩ := (o_SS hk).use z
    refine ⟨ρ, F, er, (ga ρ).mono (fun r h w F' H' st rep => ?_) (fun _ z => z) z⟩
    rcases h w F' H' st rep with h | h
    · obtain ⟨l, ns, e1, e2, e3, h⟩ := h
      exact .inl ⟨l, ns, e1, e2, e3, fun p c hp hc => .inl (h p c hp hc)⟩
    · obtain ⟨l, ks, e1, e2, e3, e4, h⟩ := h
      exact .inr ⟨l, ks, e1, e2, e3, e4, fun p L hp h1 h2 => .inr (h p L hp h1 h2)⟩
theorem o_Srt (hk : c.K = X.K) : Ol1 c lSrt fun x => (fun vs H Q => rSortedI X.K vs H Q ∨ rSortTs X.K vs H Q) [x] := fun F H x a v Q s ra e q => by
  rw [← hk]
  cases ra with
  | @lst b vs g xs h r t =>
    have e' : (match intsOf xs with
      | some ns => some ((srt ltI ns).map PV.int)
      | none => match tupsI xs with
        | some ts => if okT ts = true then some ((srt HT.lexLt ts).map tupP) else none
        | none => none) = some v := e
    cases ei : intsOf xs with
    | some ns =>
      rw [ei] at e'
      have ev := intsOf_ok r ei
      refine .inl ⟨b, ns, rfl, by rw [← ev]; exact SqL.of (s _ _ h), fun ns' p pm pw hn => ?_⟩
      have e2 : ns' = srt ltI ns := sorted_uniq linI (pm.trans (srt_perm ns).symm) (pw.imp fun h => decide_eq_false (by omega)) (srt_pair linI ns)
      cases e'
      rw [e2]
      exact q _ (Reps.ofInts _) p hn
    | none =>
      rw [ei] at e'
      cases et : tupsI xs with
      | none => rw [et] at e'; cases e'
      | some ts =>
        rw [et] at e'
        dsimp only at e'
        by_cases ho : okT ts = true
        · rw [if_pos ho] at e'
          obtain ⟨ks, rfl, rfl, hk2⟩ := tups_rep r et
          cases e'
          -- each address has one tuple
          let k : Addr → List Int := fun t => match ks.find? fun p => p.1 == t with
            | some p => p.2
            | none => []
          have kk : ∀ p ∈ ks, k p.1 = p.2 := fun p hp => by
            show (match ks.find? fun q => q.1 == p.1 with
              | some p => p.2
              | none => []) = p.2
            cases ef : ks.find? fun q => q.1 == p.1 with
            | none => exact absurd (List.find?_eq_none.mp ef p hp) (by simp)
            | some y =>
              have m := List.mem_of_find?_eq_some ef
              have e1 : y.1 = p.1 := by simpa using List.find?_some ef
              have h1 := hk2 y m
              rw [e1, hk2 p hp] at h1
              injection h1 with h1
              injection h1 with h1
              have : p.2.map V.int = y.2.map V.int := h1
              exact (List.map_inj_right (fun x y h => by cases h; rfl)).mp this.symm
          refine .inr ⟨b, ks.map (·.1), k, rfl, by rw [List.map_map]; exact SqL.of (s _ _ h), fun t ht => ?_, fun h2 t ht => ?_, fun ts' p pm pw hn => ?_⟩
          · obtain ⟨y, hy, rfl⟩ := List.mem_map.mp ht
            rw [kk y hy]
            exact SqT.of (s _ _ (hk2 y hy))
          · obtain ⟨y, hy, rfl⟩ := List.mem_map.mp ht
            rw [kk y hy]
            exact okT_ok ho (by rw [List.length_map]; rw [List.length_map] at h2; exact h2) _ (List.mem_map.mpr ⟨y, hy, rfl⟩)
          · have e2 : ts'.map k = srt HT.lexLt (ks.map (·.2)) := by
              refine sorted_uniq linT (((pm.map k).trans ?_).trans (srt_perm _).symm) (List.pairwise_map.mpr pw) (srt_pair linT _)
              rw [List.map_map]; rw [show ks.map (k ∘ fun x => x.1) = ks.map (·.2) from List.map_congr_left fun p hp => kk p hp]
            have e3 : ts'.map V.ref = (ts'.map fun t => (t, k t)).map fun p => V.ref p.1 := by rw [List.map_map] <;> rfl
            have e4 : (ts'.map fun t => (t, k t)).map (·.2) = ts'.map k := by rw [List.map_map] <;> rfl
            rw [e3]
            rw [← e2, ← e4] at q
            refine q _ (tupP_rep fun p hp => ?_) p hn
            obtain ⟨t, ht, rfl⟩ := List.mem_map.mp hp
            obtain ⟨y, hy, rfl⟩ := List.mem_map.mp (pm.mem_iff.mp ht)
            show F y.1 = some (.tup ((k y.1).map V.int))
            rw [kk y hy]
            exact hk2 y hy
        · rw [if_neg ho] at e'; cases e'
  | _ => cases e
theorem vl_sorted (hk : c.K = X.K) (hg : Gl X "sorted") (hm : X.mg "sorted" = none) (ha : PE X a (tE c W ga)) (he : starEach [a] X.env = (false, eval a X.env) :: starEach [] X.env := by rfl) :
    PE X (.Call (.Name "sorted" p) [a] [] pos) (tL c W (lOp1 lSrt ga)) := vl_callB (callR_or cr_sortedI cr_sortTs) (o_Srt hk) hg hm PyProof.Rows.boot_sorted ha (by decide) (by decide) he
end VL

set_option Elab.async false
set_option linter.all false
set_option maxRecDepth 100000
/-! VL, part 37: defs that must know that no repr is under way; repr. -/
namespace VL
open PySem PySem.Spec PyProof.Rows L2
/-- FnOk, at entries at which no repr is under way -/
structure FnOkG (P : Program) (w : World) (K : PySem.W.Frag) (mg : Str → Option Value) (base : Heap) (CX : CXT) (k : Nat) (f : Addr) (fd : FuncData) (ps : List Str) (sp : Sp) : Prop where
  len : ∀ vs H Q E, sp vs H Q E → vs.length = ps.length
  run : ∀ (A : Around) (outer : List Env) (s : Shared) (H : Hp) (args : Args) (us : List Value) (vs : List V) (Q : VK) (E : XK), Room k A → A.guards = some [] → Env0 P w K mg base A outer s H → BindsTo s fd args (ps.zip us) → Vals vs us → sp vs H Q E →
    codeAny (model P w) A (.call (.ref f) args) (CR CX outer P w H s Q E) s
theorem FnOk.g {P : Program} {w : World} {K : PySem.W.Frag} {mg : Str → Option Value} {base : Heap} {CX : CXT} {k : Nat} {f : Addr} {fd : FuncData} {ps : List Str} {sp : Sp} (F : FnOk P w K mg base CX k f fd ps sp) : FnOkG P w K mg base CX k f fd ps sp :=
  ⟨F.len, fun A o s H a us vs Q E hr _ => F.run A o s H a us vs Q E hr⟩
theorem FnOkG.mono {P : Program} {w : World} {K : PySem.W.Frag} {mg : Str → Option Value} {base : Heap} {CX : CXT} {j k : Nat} {f : Addr} {fd : FuncData} {ps : List Str} {sp : Sp} (F : FnOkG P w K mg base CX j f fd ps sp) (h : j ≤ k) : FnOkG P w K mg base CX k f fd ps sp :=
  ⟨F.len, fun A o s H a us vs Q E hr => F.run A o s H a us vs Q E (hr.mono h)⟩
theorem FnOkG.imp {P : Program} {w : World} {K : PySem.W.Frag} {mg : Str → Option Value} {base : Heap} {CX : CXT} {k : Nat} {f : Addr} {fd : FuncData} {ps : List Str} {sp sp' : Sp} (F : FnOkG P w K mg base CX k f fd ps sp) (h : ∀ vs H Q E, sp' vs H Q E → sp vs H Q E) : FnOkG P w K mg base CX k f fd ps sp' :=
  ⟨fun vs H Q E q => F.len vs H Q E (h _ _ _ _ q), fun A o s H a us vs Q E hr hg he hb hv hs => F.run A o s H a us vs Q E hr hg he hb hv (h _ _ _ _ hs)⟩
section
variable {X : Cx} {k : Nat} {f : Addr} {fd : FuncData} {ps : List Str} {sp : Sp} {E : XK}
theorem run_G {pins : List (Addr × Obj)} {σ : St} {H : Hp} {s : Shared} {Q : VK} {us : List Value} {vs : List V} (F : FnOkG X.prog X.w X.K X.mg X.base (L2.CX X.prog X.w) k f fd ps sp) (hr : Room k X.A) (hG : X.A.guards = some []) (hb : Binds X.K fd ps []) (hx : PassesAt (L2.CX X.prog X.w) X σ E)
    (I : Inv X pins σ H s) (r : Vals vs us) (h : sp vs H Q E) : wpAny (model X.prog X.w) X.A (call (.ref f) us) (EP X pins σ Q) X.xe s := by
  have hl : us.length = ps.length := by rw [← r.length]; exact F.len _ _ _ _ h
  have hb' := hb s us I.kIn (by simpa using hl)
  rw [List.append_nil] at hb'
  refine wpAny_call (codeAny_mono (F.run X.A X.stack s H ⟨us, []⟩ us vs Q E hr hG I.env0 hb' r h) fun r s' hq => ?_)
  match r, hq with
  | .error e, hq => exact hx pins H s e s' I hq
  | .ok (.ret u), hq => exact I.after hq
theorem pe_callG {x : Str} {p pos : Pos} {e : Expr} {es : List Expr} {t : TA} {Es : St → XK} (F : FnOkG X.prog X.w X.K X.mg X.base (L2.CX X.prog X.w) k f fd ps sp) (hr : Room k X.A) (hG : X.A.guards = some []) (hg : Gl X x) (hm : X.mg x = some (.ref f)) (hk : PySem.W.keepIn X.K (.ref f) = true) (hb : Binds X.K fd ps [])
    (hx : ∀ σ, PassesAt (L2.CX X.prog X.w) X σ (Es σ)) (ha : PA X (e :: es) t) (hdb : (x == ("__debug__" : Str)) = false := by decide) (he : starEach (e :: es) X.env = (false, eval e X.env) :: starEach es X.env := by rfl) (hpl : (backTo pos (starEach es X.env)).any (·.1) = false := by rfl) :
    PE X (.Call (.Name x p) (e :: es) [] pos) (tCallS sp Es t) :=
  ⟨fun pins s σ H Q I h => wpAny_Call_Name_kw (ld_glob I hg hm (PySem.W.callWith_K (h₀ := X.base) I.ok.mod.kin hk (thn (ha.run pos pins s σ H _ I h) fun us s1 ⟨vs, H1, I1, r, q⟩ => ⟨I1.kIn, run_G F hr hG hb (hx σ) I1 r q⟩) he hpl) hdb)⟩
end
structure FvG (P : Program) (w : World) (K : PySem.W.Frag) (mg : Str → Option Value) (base : Heap) (c : Cn) (k : Nat) (x : Str) (n : Nat) (m : GF) : Prop where
  ex : ∃ (f : Addr) (fd : FuncData) (ps : List Str), ps.length = n ∧ mg x = some (.ref f) ∧ FnOkG P w K mg base (L2.CX P w) k f fd ps (SpV c n m) ∧ PySem.W.keepIn K (.ref f) = true ∧ Binds K fd ps []
section
variable {c : Cn} {X : Cx} {W : WX} {pos p : Pos} {x : Str}
theorem ve_callG {k j n : Nat} {m : GF} {e : Expr} {es : List Expr} {ga : GA} (F : FvG X.prog X.w X.K X.mg X.base c k x n m) (hr : Room j X.A) (hG : X.A.guards = some []) (hj : k ≤ j) (hg : Gl X x) (tk : Takes X W) (ha : PA X (e :: es) (tA c W n ga))
    (hdb : (x == ("__debug__" : Str)) = false := by decide) (he : starEach (e :: es) X.env = (false, eval e X.env) :: starEach es X.env := by rfl) (hpl : (backTo pos (starEach es X.env)).any (·.1) = false := by rfl) :
    PE X (.Call (.Name x p) (e :: es) [] pos) (tE c W (eCall m ga)) := by
  obtain ⟨f, fd, ps, hp, hm, G, kp, hb⟩ := F.ex
  exact imp_PE (pe_callG G (hr.mono hj) hG hg hm kp hb (fun σ => passAt tk σ) ha hdb he hpl) fun σ H Q ⟨ρ, F, er, z⟩ => tA_bind er z fun v ρ1 vs F1 H1 st rep hl h1 => call_frozen hl st rep h1
theorem ve_callBG {k j n i : Nat} {m : GF} {e : Expr} {es : List Expr} {ga : GA} (F : FvG X.prog X.w X.K X.mg X.base c k x (n + 1) m) (hr : Room j X.A) (hG : X.A.guards = some []) (hj : k ≤ j) (hg : Gl X x) (tk : Takes X W) (he0 : PE X e (tVar i)) (ha : PA X es (tA c W n ga))
    (hdb : (x == ("__debug__" : Str)) = false := by decide) (he : starEach (e :: es) X.env = (false, eval e X.env) :: starEach es X.env := by rfl) (hpl : (backTo pos (starEach es X.env)).any (·.1) = false := by rfl) :
    PE X (.Call (.Name x p) (e :: es) [] pos) (tE c W (eCallB m i ga)) := by
  obtain ⟨f, fd, ps, hp, hm, G, kp, hb⟩ := F.ex
  refine imp_PE (pe_callG G (hr.mono hj) hG hg hm kp hb (fun σ => passAt tk σ) (pa_cons he0 ha he) hdb he hpl) fun σ H Q ⟨ρ, F, er, z⟩ => ?_
  unfold eCallB at z
  by_cases ho : ownAt ρ i = true
  · rw [if_pos ho] at z
    obtain ⟨u, hu⟩ := ownAt_val er ho
    exact ⟨u, hu, tA_bind er z fun v ρ1 vs F1 H1 st rep hl h1 => call_box hl st rep hu h1⟩
  · rw [if_neg ho] at z
    exact z.elim
end
end VL

set_option Elab.async false
set_option linter.all false
set_option maxRecDepth 100000
/-! VL, part 38: such defs from the text; the law's own call. -/
namespace VL
open PySem PySem.Spec PyProof.Rows L2
theorem fun_G {P : Program} {w : World} {K : PySem.W.Frag} {mg : Str → Option Value} {base : Heap} {x qual : Str} {st : Stmt} {f : Addr} {fd : FuncData} {N ps : List Str} {k : Nat} {sp : Sp} (Fn : Fun K x qual st f fd) (S : FnScope N ps (defScope st)) (len : ∀ vs H Q E, sp vs H Q E → vs.length = ps.length)
    (hbody : ∀ (cdv : Value) (A : Around) (outer : List Env) (s : Shared) (H : Hp) (vs : List V) (Q : VK) (E : XK), Room k (A.deeper (envOfC qual (defScope st) s.heap.objs.size f cdv)) → A.guards = some [] → sp vs H Q E →
      ∃ t, PSs (cxOf (L2.CX P w) P w K mg base N qual (defScope st) f cdv A outer s H E) (defBody st) t ∧ t { nx := fun _ H' => Q .non H', rt := Q } (start N vs) H) : FnOkG P w K mg base (L2.CX P w) (k + 1) f fd ps sp := by
  obtain ⟨oc, od, kV, doc, pm, an, cdv, ct, osl, rfl, lk, hcd⟩ := Fn.ex
  refine ⟨len, fun A outer s H args us vs Q E hr hG e0 hb r hsp => ?_⟩
  have hl := len _ _ _ _ hsp
  have keep : ∀ b o, base.get? b = some o → s.heap.get? b = some o := fun b o e => (e0.bs b o e).1
  have KX : K.In s.heap := e0.mod.kin.keeps keep
  have NL : s.heap.NoLimit := e0.mod.nolimit.keeps keep
  have kinds : ∀ y ∈ ps.zip us, (defScope st).names.lookup y.1 = some .local ∨ ((defScope st).names.lookup y.1 = some .cell ∧ ((cellsFrom (s.heap.objs.size + 1) (defScope st).names []).lookup y.1).isSome = true) := fun y hy =>
    (S.par y.1 (List.of_mem_zip (a := y.1) (b := y.2) hy).1).imp id fun q => ⟨q, PySem.W.cellsFrom_some _ _ _ (.inl q)⟩
  refine codeAny_call_function hr.depth (KX _ _ lk) rfl S.co S.gen rfl (PySem.W.codeRec_of KX hcd) (hb _ _ _ _ (wpAny_newFunctionEnv_cells S.kind kinds fun env he s1 x => ?_))
  subst he
  refine ⟨NL.keeps x.toInCall.keep, codeAny_func ?_⟩
  obtain ⟨t, ht, hq⟩ := hbody cdv A outer s H vs Q E (hr.deeper _) hG hsp
  refine wpAny_mono (ht.run [] s1 (start N vs) H _ (inv_start S hr.hd e0 hl r x) hq) (fun fl s' hs => ?_) fun _ _ z => z
  match fl, hs with
  | .ret u, ⟨v, σ', H', J, rv, q⟩ => exact ⟨v, H', J.os, J.bare, J.base, J.hok, rv, q⟩
  | .next, ⟨σ', H', J, q⟩ => exact ⟨V.non, H', J.os, J.bare, J.base, J.hok, rfl, q⟩
  | .brk, ⟨_, _, _, q⟩ => exact False.elim q
  | .cont, ⟨_, _, _, q⟩ => exact False.elim q
theorem fn_okG {c : Cn} {pn : Nat → Bool} {P : Program} {w : World} {K : PySem.W.Frag} {mg : Str → Option Value} {base : Heap} {x qual : Str} {st : Stmt} {f : Addr} {fd : FuncData} {N ps : List Str} {k n : Nat} {g : GS} (hk : c.K = K) (Fn : Fun K x qual st f fd) (S : FnScope N ps (defScope st)) (hn : ps.length = n) (hl : ps.length ≤ N.length)
    (hbody : ∀ (cdv : Value) (A : Around) (outer : List Env) (s : Shared) (H : Hp) (E : XK), Room k (A.deeper (envOfC qual (defScope st) s.heap.objs.size f cdv)) → A.guards = some [] →
      PSs (cxOf (L2.CX P w) P w K mg base N qual (defScope st) f cdv A outer s H E) (defBody st) (tS c pn (fun cls d _ H' => E cls d H') g)) : FnOkG P w K mg base (L2.CX P w) (k + 1) f fd ps (SpV c n (fnV N.length pn g)) := by
  refine fun_G Fn S (fun vs H Q E h => h.1.trans hn.symm) (fun cdv A outer s H vs Q E hr hG h => ⟨_, hbody cdv A outer s H E hr hG, ?_⟩)
  obtain ⟨hv, F, ss, er, z⟩ := h
  have hvl : vs.length ≤ N.length := by omega
  unfold fnV at z
  by_cases hp : pinned pn ss = true
  · rw [if_pos hp] at z
    obtain ⟨er0, _⟩ := er_enter er hvl
    refine ⟨_, F, er0, (g _).mono (fun o q => ?_) (fun e q d σ' F' H' s' ex => q d F' H' (er_leave er hvl hp s') ex) z⟩
    cases o with
    | nx ρ' => exact fun σ' F' H' s' => q .non F' H' (er_leave er hvl hp s') .non
    | rt v ρ' => exact fun w σ' F' H' s' rp => q w F' H' (er_leave er hvl hp s') rp
    | bk ρ' => exact q.elim
    | ct ρ' => exact q.elim
    | th o ρ' => exact q.elim
  · rw [if_neg hp] at z
    exact z.elim
/-! ### repr -/
theorem pvD_depth {F : Hp} : True := trivial
def pRepr (v : PV) : Option PV := match v with
  | .lst _ xs => (pvDs xs).bind fun ds => if (PyData.list ds).showable = true ∧ (PyData.list ds).hasDict = false ∧ (PyData.list ds).depth ≤ 60 ∧ (PyData.list ds).shown.length ≤ sizeLine then some (.str (PyData.list ds).shown) else none
  | _ => none
section
variable {c : Cn} {X : Cx} {W : WX} {pos p : Pos} {a : Expr} {ga : GE}
def rRepr (K : PySem.W.Frag) : List V → Hp → VK → Prop := fun xs H Q => ∃ (b : Addr) (d : PyData), xs = [.ref b] ∧ Dp K H (.ref b) d ∧ d.showable = true ∧ d.hasDict = false ∧ d.depth ≤ 60 ∧ d.shown.length ≤ sizeLine ∧ Q (.str d.shown) H
theorem cr_repr (hG : X.A.guards = some []) (hu : X.A.units + 64 < cLine) : CallR X (.builtin "repr") (rRepr X.K) := by
  intro pins s σ H xs us Q I r h
  obtain ⟨b, d, rfl, hd, h1, h2, h3, h4, q⟩ := h
  rw [Vals.ref1 r]
  obtain ⟨as, R⟩ := Dp.reads I d (.ref b) (.ref b) hd rfl
  refine PySem.repr_of_reads' R h1 (fun z => by rw [h2] at z; cases z) hG (by omega) (fun _ _ e => e) (fun h' u tk k => ?_) h4
  exact ⟨.str d.shown, H, I.kept (t' := tk) k, ⟨u, rfl⟩, q⟩
theorem o_repr (hk : c.K = X.K) : Op1 c pRepr fun x => rRepr X.K [x] := fun F H x a v Q s ra e q => by
  cases ra with
  | @lst b vs g xs h r t =>
    have e' : ((pvDs xs).bind fun ds => if (PyData.list ds).showable = true ∧ (PyData.list ds).hasDict = false ∧ (PyData.list ds).depth ≤ 60 ∧ (PyData.list ds).shown.length ≤ sizeLine then some (PV.str (PyData.list ds).shown) else none) = some v := e
    cases ed : pvDs xs with
    | none => rw [ed] at e'; cases e'
    | some ds =>
      rw [ed] at e'
      dsimp only [Option.bind] at e'
      split at e'
      · rename_i hh
        cases e'
        have dp : Dp X.K H (.ref b) (.list ds) := by
          rw [← hk]
          refine .lst (SqL.of (s _ _ h)) (pvDs_ok (F := H) ?_ ed)
          exact r.mono s
        exact ⟨b, .list ds, rfl, dp, hh.1, hh.2.1, hh.2.2.1, hh.2.2.2, q _ F H (Grow.refl s) (.str _)⟩
      · cases e'
  | _ => cases e
theorem ve_repr (hk : c.K = X.K) (hG : X.A.guards = some []) (hu : X.A.units + 64 < cLine) (hg : Gl X "repr") (hm : X.mg "repr" = none) (ha : PE X a (tE c W ga)) (he : starEach [a] X.env = (false, eval a X.env) :: starEach [] X.env := by rfl) :
    PE X (.Call (.Name "repr" p) [a] [] pos) (tE c W (eOp1 pRepr ga)) := ve_callB (cr_repr hG hu) (o_repr hk) hg hm (by decide +kernel) ha (by decide) (by decide) he
end
end VL

set_option Elab.async false
set_option linter.all false
set_option maxRecDepth 100000
/-! VL, part 39: the law's own call, where no repr is under way. -/
namespace VL
open PySem PySem.Spec PyProof.Rows L2
section
variable {P : Program} {w : World} {K : PySem.W.Frag} {mg mb : Str → Option Value} {k : Nat} {fa a : Addr} {fd : FuncData} {x : Str} {sp : Sp} {s : Shared} {vs : List Value} {ns : List Int}
abbrev scrO (vs : List Value) : Obj := { cls := .type "list", data := .seq vs.toArray }
abbrev goodR (s : Shared) : Result → Shared → Prop := fun r s' => r = .ok (.ret (.bool true)) ∧ OldK s.heap s'.heap ∧ s'.os = s.os ∧ AllBare s'.gens
/-- .. from an abstract heap in which nothing but the script may stand -/
theorem callG_from (KX : K.In s.heap) (hns : s.heap.Ns mainGlobals mg) (hb : s.heap.Ns builtinsNs mb) (hbb : ∀ x : Str, x ≠ "__name__" → mb x = bootBuiltins x) (hlim : s.heap.NoLimit) (hg : s.gens = #[]) (ha : s.heap.get? a = some (scrO vs)) (hr : Room k callerA)
    (F : ∀ base : Heap, K.In base → base.Ns mainGlobals mg → FnOkG P w K mg base (L2.CX P w) k fa fd [x] sp) (hbind : ∀ (s : Shared) (u : Value), BindsTo s fd ⟨[u], []⟩ [(x, u)]) {H : Hp} (hO : Only H) (hsp : sp [.ref a] H (fun v _ => v = .bl true) fun _ _ _ => False)
    (hCX : ∀ H e s', L2.CX P w [] H s (fun _ _ _ => False) e s' → False) (hok : HOk P w H s.heap) (hA : ∀ b, H b ≠ none → b = a) (hK : H a ≠ none → K.lookup a = none) : codeAny (model P w) callerA (.call (.ref fa) ⟨[.ref a], []⟩) (goodR s) s := by
  have isA : ∀ {b : Addr} {u : HO}, H b = some u → b = a := fun {b u} q => hA b (by rw [q]; exact fun z => nomatch z)
  have nsH : ∀ {b : Addr} {m : Str → Option Value}, s.heap.Ns b m → (hidT s.heap H).Ns b m := fun {b m} ⟨o, es, ep, e, d, r⟩ => ⟨o, es, ep, hidT_get e (by
    cases q : H b with
    | none => rfl
    | some u =>
      rw [isA q, ha] at e
      cases e
      cases (show Data.seq vs.toArray _ = Data.dict es ep from d)), d, r⟩
  have kH : K.In (hidT s.heap H) := fun b o e => hidT_get (KX b o e) (by
    cases q : H b with
    | none => rfl
    | some u =>
      rw [isA q, hK (by rw [← isA q, q]; exact fun z => nomatch z)] at e
      cases e)
  have e0 : Env0 P w K mg (hidT s.heap H) callerA [] s H := ⟨rfl, ⟨kH, nsH hns, ⟨mb, nsH hb, hbb⟩, hlim.elim fun mc z => ⟨mc, nsH z.1, z.2⟩⟩, fun b o e => of_hidT e, Nat.le_of_eq (hidT_size _ _), trivial, fun b hb => absurd (show b ∈ ([] : List Addr) from hb) List.not_mem_nil, hok, .of_eq hg⟩
  refine codeAny_mono ((F _ kH (nsH hns)).run callerA [] s H ⟨[.ref a], []⟩ [.ref a] [.ref a] _ _ hr rfl e0 (hbind s (.ref a)) (.cons rfl .nil) hsp) fun r s' h => ?_
  match r, h with
  | .error e, h => exact (hCX H e s' h).elim
  | .ok (.ret u), ⟨v, H', os, bare, un, hok', r', q⟩ =>
    obtain rfl : v = .bl true := q
    obtain rfl : u = Value.bool true := r'
    refine ⟨rfl, OldK.of_keep fun b o e => ?_, os, bare⟩
    cases q : H b with
    | none => exact un.keep b o e q (fun z => absurd (show b ∈ ([] : List Addr) from z) List.not_mem_nil) List.not_mem_nil
    | some u =>
      rcases hO b with z | ⟨ob, xs, z⟩
      · rw [q] at z; cases z
      · have h1 := (hok b _ z).1
        have h2 := (hok' b _ (un.frzs b ob _ z)).1
        rw [e] at h1
        cases h1
        exact h2
theorem law_callG (KX : K.In s.heap) (hns : s.heap.Ns mainGlobals mg) (hb : s.heap.Ns builtinsNs mb) (hbb : ∀ x : Str, x ≠ "__name__" → mb x = bootBuiltins x) (hlim : s.heap.NoLimit) (hg : s.gens = #[]) (ha : s.heap.get? a = some (scrO vs)) (hi : IntsAre vs ns) (hl : ns.length ≤ sizeLine) (hr : Room k callerA)
    (F : ∀ base : Heap, K.In base → base.Ns mainGlobals mg → FnOkG P w K mg base (L2.CX P w) k fa fd [x] sp) (hbind : ∀ (s : Shared) (u : Value), BindsTo s fd ⟨[u], []⟩ [(x, u)]) (hsp : ∀ H : Hp, Only H → SqL K H a (ns.map V.int) → sp [.ref a] H (fun v _ => v = .bl true) fun _ _ _ => False)
    (hCX : ∀ H e s', L2.CX P w [] H s (fun _ _ _ => False) e s' → False) : codeAny (model P w) callerA (.call (.ref fa) ⟨[.ref a], []⟩) (goodR s) s := by
  have rv := L2.vals_ints hi
  cases hk : K.lookup a with
  | some o =>
    have e := KX a o hk
    rw [ha] at e
    cases e
    have hO : Only fun _ => none := fun _ => .inl rfl
    exact callG_from KX hns hb hbb hlim hg ha hr F hbind hO (hsp _ hO (.inr ⟨_, vs.toArray, _, hk, rfl, rfl, rfl, by rw [List.size_toArray, hi.length]; exact hl, by simpa using rv⟩)) hCX (fun b u z => by cases z) (fun b z => absurd rfl z) fun z => absurd rfl z
  | none =>
    let H : Hp := fun b => if b = a then some (.frz (scrO vs) (.lst (ns.map V.int))) else none
    have Ha : H a = some (.frz (scrO vs) (.lst (ns.map V.int))) := if_pos rfl
    have Hn : ∀ {b}, b ≠ a → H b = none := fun h => if_neg h
    have hO : Only H := fun b => by
      by_cases h : b = a
      · subst h; exact .inr ⟨_, _, Ha⟩
      · exact .inl (Hn h)
    refine callG_from KX hns hb hbb hlim hg ha hr F hbind hO (hsp _ hO (.inl (.inr ⟨_, Ha⟩))) hCX (fun b u z => ?_) (fun b z => ?_) fun _ => hk
    · by_cases h : b = a
      · subst h
        have z' := Ha.symm.trans z
        cases z'
        exact ⟨ha, by rw [List.length_map]; exact hl, vs, _, rv, ha⟩
      · have z' := (Hn h).symm.trans z
        cases z'
    · by_cases h : b = a
      · exact h
      · exact absurd (Hn h) z
end
theorem walk_ofG {l : PySem.W.OpenLaw} {n k : Nat} {q : Program} {loose : List Str} {XP : (Str → Option Value) → Heap → Prop} {YP : World → Heap → Prop} {d : DefRec} {K : Params → PySem.W.Frag} {sp : World → Sp} {x : Str} (hn : l.most = some n) (hn2 : n ≤ sizeLine) (hdf : d.params.defaults = []) (hr : Room k callerA)
    (hY : ∀ (w : World) (h : Heap), YP w h → (K w.params).In h)
    (F : ∀ (w : World) (mg : Str → Option Value) (fa : Addr) (h : Heap), (K w.params).In h → h.Ns mainGlobals mg → mg d.name = some (.ref fa) → ∃ fd : FuncData, (∀ (s : Shared) (u : Value), BindsTo s fd ⟨[u], []⟩ [(x, u)]) ∧
      ∀ base : Heap, (K w.params).In base → base.Ns mainGlobals mg → FnOkG l.prog w (K w.params) mg base (L2.CX l.prog w) k fa fd [x] (sp w))
    (hsp : ∀ (w : World) (H : Hp) (a : Addr) (ns : List Int), ns.length ≤ n → Only H → SqL (K w.params) H a (ns.map V.int) → sp w [.ref a] H (fun v _ => v = .bl true) fun _ _ _ => False)
    (hCX : ∀ (w : World) (H : Hp) (s : Shared) (e : Value) (s' : Shared), L2.CX l.prog w [] H s (fun _ _ _ => False) e s' → False) : PySem.W.WalkO q loose XP YP l.row.toRowW d [] (fun f vs => PySem.call f vs) := by
  refine Att.attach_call hn hdf fun w s₀ s₁ mg mb fa o pm cd doc a vs ns G Y ho hd hcd hmg hobj hints hlen hg => ?_
  obtain ⟨fd, hb, hF⟩ := F w mg fa _ (hY w _ Y) G.T.g hmg
  exact law_callG (hY w _ Y) G.T.g G.T.b G.T.builtins G.T.nolimit hg hobj hints (Nat.le_trans hlen hn2) hr hF hb (fun H hO hS => hsp w H a ns hlen hO hS) fun H e s' => hCX w H s₁ e s'
end VL

set_option Elab.async false
set_option linter.all false
set_option maxRecDepth 100000
/-! VL, part 40: ranges as tuples and lists; a thing's place. -/
namespace VL
open PySem PySem.Spec PyProof.Rows L2
variable {c : Cn} {X : Cx} {W : WX} {a b o : Expr} {ga gb : GE} {pos p p2 apos : Pos}
def eTupRg (gi : GI) : GE := fun ρ => (gi ρ).bind fun a => if a.1.length ≤ 16777216 then .ret (.tup a.1, a.2) else .stuck
def lLstRg (gi : GI) : GL := fun ρ => (gi ρ).bind fun a => if a.1.length ≤ 16777216 then .ret a else .stuck
theorem rg_rep {F : Hp} (i : Int) : ∀ n : Nat, Reps c F ((List.range n).map fun k => V.int (i + (k : Nat))) ((List.range n).map fun (k : Nat) => PV.int (i + k)) := fun n => by
  induction List.range n with
  | nil => exact .nil
  | cons x xs ih => exact .cons (.int _) ih
theorem rg1 {n : Int} {xs : List PV} (e : iRange (.int n) = some xs) : n.natAbs < 4611686018427387904 ∧ xs = (List.range n.toNat).map fun (k : Nat) => PV.int k := by
  have e' : (if n.natAbs < 4611686018427387904 then some ((List.range n.toNat).map fun (k : Nat) => PV.int k) else none) = some xs := e
  by_cases h : n.natAbs < 4611686018427387904
  · rw [if_pos h] at e'
    cases e'
    exact ⟨h, rfl⟩
  · rw [if_neg h] at e'
    cases e'
theorem rgOk1 {n : Int} (h : n.natAbs < 4611686018427387904) (hz : n.toNat ≤ 16777216) : RgOk 0 n := ⟨by omega, by omega, by omega, by omega, by simpa using hz⟩
theorem rgReps {F : Hp} (n : Int) : Reps c F (rgV 0 n) ((List.range n.toNat).map fun (k : Nat) => PV.int k) := by
  have := rg_rep (c := c) (F := F) 0 n.toNat
  simpa [rgV] using this
theorem ve_tupRg (hc : X.calm = true) (hg : Gl X "tuple") (hm : X.mg "tuple" = none) (hg2 : Gl X "range") (hm2 : X.mg "range" = none) (ha : PE X a (tE c W ga)) (he : starEach [a] X.env = (false, eval a X.env) :: starEach [] X.env := by rfl)
    (he2 : starEach [.Call (.Name "range" p2) [a] [] pos] X.env = (false, eval (.Call (.Name "range" p2) [a] [] pos) X.env) :: starEach [] X.env := by rfl) : PE X (.Call (.Name "tuple" p) [.Call (.Name "range" p2) [a] [] pos] [] apos) (tE c W (eTupRg (iRng ga))) :=
  imp_PE (pe_tupRg hc hg hm (prg_1 hg2 hm2 ha he) he2) fun σ H Q ⟨ρ, F, er, z⟩ => by
    refine tE_bind (k := fun a => (lift' (iRange a.1) a.2).bind fun b => if b.1.length ≤ 16777216 then Wp.ret (PV.tup b.1, b.2) else .stuck) er z fun v ρ1 w F1 H1 st rep h1 => ?_
    obtain ⟨xs, e, h1⟩ := lift'_run h1
    cases rep with
    | int n =>
      obtain ⟨hn, rfl⟩ := rg1 e
      dsimp only at h1
      by_cases hz : ((List.range n.toNat).map fun (k : Nat) => PV.int k).length ≤ 16777216
      · rw [if_pos hz] at h1
        refine ⟨n, rfl, rgOk1 hn (by simpa using hz), fun q hq => ?_⟩
        have gr := upd_grow (o := .tup (rgV 0 n)) st.2.sub hq
        exact h1 _ _ _ (st.trans (gr.stpE st.2)) (.tup upd_same ((rgReps n).mono gr.ff))
      · rw [if_neg hz] at h1
        exact h1.elim
    | _ => cases e
theorem vl_lstRg (hc : X.calm = true) (hg : Gl X "list") (hm : X.mg "list" = none) (hg2 : Gl X "range") (hm2 : X.mg "range" = none) (ha : PE X a (tE c W ga)) (he : starEach [a] X.env = (false, eval a X.env) :: starEach [] X.env := by rfl)
    (he2 : starEach [.Call (.Name "range" p2) [a] [] pos] X.env = (false, eval (.Call (.Name "range" p2) [a] [] pos) X.env) :: starEach [] X.env := by rfl) : PE X (.Call (.Name "list" p) [.Call (.Name "range" p2) [a] [] pos] [] apos) (tL c W (lLstRg (iRng ga))) :=
  imp_PE (pe_listRg hc hg hm (prg_1 hg2 hm2 ha he) he2) fun σ H Q ⟨ρ, F, er, z⟩ => by
    refine tE_bind (k := fun a => (lift' (iRange a.1) a.2).bind fun b => if b.1.length ≤ 16777216 then Wp.ret b else .stuck) er z fun v ρ1 w F1 H1 st rep h1 => ?_
    obtain ⟨xs, e, h1⟩ := lift'_run h1
    cases rep with
    | int n =>
      obtain ⟨hn, rfl⟩ := rg1 e
      dsimp only at h1
      by_cases hz : ((List.range n.toNat).map fun (k : Nat) => PV.int k).length ≤ 16777216
      · rw [if_pos hz] at h1
        exact ⟨n, rfl, rgOk1 hn (by simpa using hz), fun q hq => laidL st h1 hq (rgReps n)⟩
      · rw [if_neg hz] at h1
        exact h1.elim
    | _ => cases e
/-! ### xs.index(y) -/
def isLst : PV → Bool
  | .lst _ _ => true
  | _ => false
/-- a list's method of one argument, that changes nothing -/
def eLstM (f : PV → PV → Option PV) (g h : GE) : GE := fun ρ => (g ρ).bind fun a => if isLst a.1 = true then (h a.2).bind fun b => lift (f a.1 b.1) b.2 else .stuck
@[simp] theorem c_eLstM {f : PV → PV → Option PV} {ρ : Env'} : eLstM f ga gb ρ = (ga ρ).bind fun a => if isLst a.1 = true then (gb a.2).bind fun b => lift (f a.1 b.1) b.2 else .stuck := (rfl)
@[simp] theorem c_eTupRg {gi : GI} {ρ : Env'} : eTupRg gi ρ = (gi ρ).bind fun a => if a.1.length ≤ 16777216 then .ret (.tup a.1, a.2) else .stuck := (rfl)
@[simp] theorem c_lLstRg {gi : GI} {ρ : Env'} : lLstRg gi ρ = (gi ρ).bind fun a => if a.1.length ≤ 16777216 then .ret a else .stuck := (rfl)
def pIndex : PV → PV → Option PV
  | .lst _ xs, y => match pvDs xs, pvD y with
    | some ds, some d => if SeqAt.shaped (.list ds) = true ∧ SeqAt.shaped d = true then (ds.findIdx? fun z => PyData.eqv z d).map fun (j : Nat) => PV.int (j : Int) else none
    | _, _ => none
  | _, _ => none
theorem findIdx_at {α : Type} {p : α → Bool} : ∀ {xs : List α} {j : Nat}, xs.findIdx? p = some j → ∃ z, xs[j]? = some z ∧ p z = true ∧ ∀ (m : Nat) (z' : α), m < j → xs[m]? = some z' → p z' = false
  | [], j, e => by simp at e
  | x :: xs, j, e => by
    rw [List.findIdx?_cons] at e
    by_cases h : p x = true
    · rw [if_pos h] at e
      cases e
      exact ⟨x, rfl, h, fun m z hm => absurd hm (Nat.not_lt_zero m)⟩
    · rw [if_neg h] at e
      cases ej : xs.findIdx? p with
      | none => rw [ej] at e; cases e
      | some i =>
        rw [ej] at e
        cases e
        obtain ⟨z, h1, h2, h3⟩ := findIdx_at ej
        refine ⟨z, h1, h2, fun m z' hm hz => ?_⟩
        cases m with
        | zero => cases hz; simpa using h
        | succ m => exact h3 m z' (Nat.lt_of_succ_lt_succ hm) hz
theorem ve_index (hk : c.K = X.K) (hu : X.A.units + 65 < cLine) (ho : PE X o (tE c W ga)) (ha : PE X b (tE c W gb)) (hbase : attributeBase o "index" X.env (eval o X.env) = eval o X.env := by rfl)
    (hfew : ((backTo p (starEach [b] X.env)).all (fun x => !x.1) && (backToKw p (keywordEach [] X.env)).all (fun x => x.1.isSome) && decide ([b].length + ([] : List Keyword).length + (if ([] : List Keyword).isEmpty then 0 else 1) < 30)) = true := by rfl)
    (hline : (apos.endLine == p.line) = true := by rfl) (hs : starEach [b] X.env = (false, eval b X.env) :: starEach [] X.env := by rfl) : PE X (.Call (.Attribute o "index" apos) [b] [] p) (tE c W (eLstM pIndex ga gb)) :=
  imp_PE (pe_bm PySem.F.plainAttrs_list PySem.F.slot_list_index PySem.F.type_list_index (mt_indexD hu) ho (pa_cons ha pa_nil hs) hbase hfew hline hs) fun σ H Q ⟨ρ, F, er, z⟩ => by
    refine tE_bind er z fun v ρ1 w F1 H1 st rep h1 => ?_
    cases rep with
    | @lst q vs g xs hq r t =>
      refine ⟨.inl ⟨rfl, _, SqL.of (st.2.sub _ _ hq)⟩, tE_bind st.2 h1 fun u ρ2 y F2 H2 st2 rep2 h2 => ?_⟩
      obtain ⟨v2, e, h2⟩ := lift_run h2
      have e' : (match pvDs xs, pvD u with
        | some ds, some d => if SeqAt.shaped (.list ds) = true ∧ SeqAt.shaped d = true then (ds.findIdx? fun z => PyData.eqv z d).map fun (j : Nat) => PV.int (j : Int) else none
        | _, _ => none) = some v2 := e
      cases e1 : pvDs xs with
      | none => rw [e1] at e'; cases e'
      | some ds =>
        cases e2 : pvD u with
        | none => rw [e1, e2] at e'; cases e'
        | some d =>
          rw [e1, e2] at e'
          dsimp only at e'
          split at e'
          · rename_i hsh
            cases e3 : ds.findIdx? fun z => PyData.eqv z d with
            | none => rw [e3] at e'; cases e'
            | some j =>
              rw [e3] at e'
              cases e'
              obtain ⟨z, z1, z2, z3⟩ := findIdx_at e3
              rw [← hk]
              refine ⟨q, y, d, ds, j, z, rfl, rfl, .lst (SqL.of (st2.2.sub _ _ (st2.1.ff _ _ hq))) (pvDs_ok ((r.mono st2.1.ff).mono st2.2.sub) e1), pvD_ok (rep2.mono st2.2.sub) e2, hsh.1, hsh.2, z1, z2, z3, ?_⟩
              exact h2 _ F2 H2 (st.trans st2) (.int _)
          · cases e'
    | _ => exact h1.elim
end VL

set_option Elab.async false
set_option linter.all false
set_option maxRecDepth 100000
/-! VL, part 41: `_law_very` where lists alone are changed. -/
namespace VL
open PySem PySem.Spec PyProof.Rows L2
def SpV1 (c : Cn) (m : GF) : Sp := fun vs H Q E => vs.length = 2 ∧ ∃ w x told passed F, vs = [w, x] ∧ Same F H ∧ (∀ p, c.B p → ∃ o, H p = some o) ∧ Rep c F w told ∧ Rep c F x passed ∧ match passed with
  | .lst g xs => ∃ p ys, g = some p ∧ told = .lst (some p) ys ∧ xs.length < sizeLine ∧ ∀ H', (∀ q o, q ≠ p → H q = some o → H' q = some o) → (∃ vs, F p = some (.lst vs) ∧ H' p = some (.lst (vs ++ [.int 7]))) → Q (.bl true) H'
  | _ => (∃ t, tyN passed = some t) ∧ (m [.fz told, .fz passed]).run (fun r => ∀ u F' H', Grow F H F' H' → Rep c F' u r.1 → Q u H') (fun e => ∀ d F' H', Grow F H F' H' → ExD c F' H' d e.1.fs → E (.ref (c.cA e.1.k)) d H')
structure VeryD1 (c : Cn) (m : GF) (X : Cx) (W : WX) (body : List Stmt) : Prop where
  ex : ∃ t1 a1 r1 p1 r3, body = [.If t1 [a1, r1] [] p1, r3] ∧ PT X t1 (tT c W (gVal (eOp1 (pIsi "list") (eVar 1)))) ∧ PS X a1 (tAppX 1) ∧ PS X r1 (tS c noPin W (sRet (veryL m))) ∧ PS X r3 (tS c noPin W (sRet (veryS m)))
section
variable {c : Cn} {X : Cx} {W : WX} {m : GF} {a b : Expr} {ga gb : GE} {pos p : Pos}
theorem very_body1 {body : List Stmt} (M : Very7 m) (B : VeryD1 c m X W body) (w x : V) : ∃ t, PSs X body t ∧ ∀ (H : Hp) (Q : VK) (E : XK), (W = fun cls d _ H' => E cls d H') → SpV1 c m [w, x] H Q E → t { nx := fun _ H' => Q .non H', rt := Q } [some w, some x] H := by
  obtain ⟨t1, a1, r1, p1, r3, rfl, d1, d2, d3, d7⟩ := B.ex
  refine ⟨_, pss_cons (ps_if d1 (pss_cons d2 (vss_one d3)) pss_nil) (vss_one d7), fun H Q E hW h => ?_⟩
  obtain ⟨_, w', x', told, passed, F, e, s, mk, rt, rp, h⟩ := h
  cases e
  have er := er_two s mk rt rp
  have other : isT "list" passed = some false → (m [.fz told, .fz passed]).run (fun r => ∀ u F' H', Grow F H F' H' → Rep c F' u r.1 → Q u H') (fun e => ∀ d F' H', Grow F H F' H' → ExD c F' H' d e.1.fs → E (.ref (c.cA e.1.k)) d H') →
      tSeq (tIfS (tT c W (gVal (eOp1 (pIsi "list") (eVar 1)))) (tSeq (tAppX 1) (tS c noPin W (sRet (veryL m)))) tNext) (tS c noPin W (sRet (veryS m))) { nx := fun _ H' => Q .non H', rt := Q } [some w, some x] H := fun e1 h => by
    refine isT_run er e1 fun F1 H1 st => ?_
    rw [if_neg Bool.false_ne_true]
    have gr : ∀ {σ' F' H'}, StpS c noPin [some w, some x] [.fz told, .fz passed] F1 H1 σ' [.fz told, .fz passed] F' H' → Grow F H F' H' := fun {σ' F' H'} s' =>
      ⟨st.1.ff.trans s'.1.ff, fun p o q => (s'.1.hh p o (st.1.hh p o q own_two).1 own_two).1, s'.2.1.sub, fun p o q z => (s'.1.hh p o (st.1.hh p o q own_two).1 own_two).2 ((st.1.hh p o q own_two).2 z)⟩
    refine ⟨_, F1, st.2, (m [.fz told, .fz passed]).mono (fun r q w' σ' F' H' s' rp' => q w' F' H' (gr s') rp') (fun e q d σ' F' H' s' ex => ?_) h⟩
    rw [hW]
    exact q d F' H' (gr s') ex
  cases rp with
  | @lst p vs g xs hF r t =>
    obtain ⟨p', ys, rfl, rfl, hz, hQ⟩ := h
    obtain ⟨rfl, hB⟩ := t p' rfl
    have hl : vs.length = xs.length := r.length
    refine isT_run er (by rfl : isT "list" (.lst (some p') xs) = some true) fun F1 H1 st1 => ?_
    rw [if_pos rfl]
    have hp1 : H1 p' = some (.lst vs) := (st1.1.hh p' _ (s _ _ hF) own_two).1
    have hw : w = .ref p' := by
      cases rt with
      | lst h1 r1 t1 => rw [(t1 p' rfl).1]
    refine ⟨p', vs, rfl, hp1, by rw [hl]; exact hz, ?_⟩
    refine very_after (m := m) (H := H) (T := .lst none (List.replicate vs.length .any ++ [.int 7])) (.lst upd_same (Reps.append (by have := reps_any (c := c) vs (F := only p' (.lst (vs ++ [V.int 7]))); rwa [List.map_const'] at this) (.cons (.int 7) .nil)) (fun _ z => nomatch z)) upd_same (fun q o n h => ?_) hw rfl (fun K E hK => M.l vs.length K E (by omega) hK) mk fun H' g1 g2 => hQ H' g1 ⟨vs, hF, g2⟩
    rw [upd_ne n]
    exact (st1.1.hh q o h own_two).1
  | any v => obtain ⟨⟨t, e⟩, _⟩ := h; cases e
  | ins h1 r1 => obtain ⟨⟨t, e⟩, _⟩ := h; cases e
  | scr h1 => obtain ⟨⟨t, e⟩, _⟩ := h; cases e
  | _ => exact other rfl h.2
theorem very_ok1 {P : Program} {w : World} {K : PySem.W.Frag} {mg : Str → Option Value} {base : Heap} {x qual : Str} {st : Stmt} {f : Addr} {fd : FuncData} {k : Nat} (M : Very7 m) (Fn : Fun K x qual st f fd) (S : FnScope ["told", "passed"] ["told", "passed"] (defScope st))
    (hbody : ∀ (cdv : Value) (A : Around) (outer : List Env) (s : Shared) (H : Hp) (E : XK), Room k (A.deeper (envOfC qual (defScope st) s.heap.objs.size f cdv)) →
      VeryD1 c m (cxOf (L2.CX P w) P w K mg base ["told", "passed"] qual (defScope st) f cdv A outer s H E) (fun cls d _ H' => E cls d H') (defBody st)) : FnOk P w K mg base (L2.CX P w) (k + 1) f fd ["told", "passed"] (SpV1 c m) :=
  Fn.okX S (fun vs H Q E h => h.1) fun cdv A outer s H vs Q E hr h => by
    obtain ⟨hl, w, x, told, passed, F, rfl, h'⟩ := h
    obtain ⟨t, d, q⟩ := very_body1 M (hbody cdv A outer s H E hr) w x
    exact ⟨t, d, q H Q E rfl ⟨hl, w, x, told, passed, F, rfl, h'⟩⟩
structure FvV1 (P : Program) (w : World) (K : PySem.W.Frag) (mg : Str → Option Value) (base : Heap) (c : Cn) (k : Nat) (x : Str) (m : GF) : Prop where
  ex : ∃ (f : Addr) (fd : FuncData) (ps : List Str), mg x = some (.ref f) ∧ FnOk P w K mg base (L2.CX P w) k f fd ps (SpV1 c m) ∧ PySem.W.keepIn K (.ref f) = true ∧ Binds K fd ps []
def hV1 (m : GF) (ga gb : GE) : GH := fun ρ => (ga ρ).bind fun a => (gb a.2).bind fun b => match b.1 with
  | .lst (some p) xs => match a.1 with
    | .lst (some q) _ => if p = q ∧ xs.length < sizeLine then .ret (true, some p, b.2) else .stuck
    | _ => .stuck
  | .lst none _ => .stuck
  | v => if (tyN v).isSome = true then ((m [.fz a.1, .fz v]).mapE fun e => (e.1, b.2)).bind fun r => match r.1 with
    | .bl k => .ret (k, none, b.2)
    | _ => .stuck
  else .stuck
theorem ve_very1 {k j : Nat} {x : Str} (F : FvV1 X.prog X.w X.K X.mg X.base c k x m) (hr : Room j X.A) (hj : k ≤ j) (hg : Gl X x) (tk : Takes X W) (ha : PE X a (tE c W ga)) (hb : PE X b (tE c W gb))
    (hdb : (x == ("__debug__" : Str)) = false := by decide) (he : starEach [a, b] X.env = (false, eval a X.env) :: starEach [b] X.env := by rfl) (he2 : starEach [b] X.env = (false, eval b X.env) :: starEach [] X.env := by rfl)
    (hpl : (backTo pos (starEach [b] X.env)).any (·.1) = false := by rfl) : PE X (.Call (.Name x p) [a, b] [] pos) (tHE c W (hV1 m ga gb)) := by
  obtain ⟨f, fd, ps, hm, G, kp, hbi⟩ := F.ex
  refine imp_PE (pe_callS G (hr.mono hj) hg hm kp hbi (fun σ => passAt tk σ) (pa_cons ha (pa_cons hb pa_nil he2) he) hdb he hpl) fun σ H Q ⟨ρ, F, er, z⟩ => ?_
  refine tE_bind er z fun v ρ1 w F1 H1 st rep h1 => tE_bind st.2 h1 fun u ρ2 y F2 H2 st2 rep2 h2 => ?_
  have st12 := st.trans st2
  refine ⟨rfl, w, y, v, u, F2, rfl, st2.2.sub, st2.2.mrk, rep.mono st2.1.ff, rep2, ?_⟩
  have nOw : ∀ {p : Addr} {o : HO}, F2 p = some o → ¬ Own σ ρ2 p := fun {p o} hp hz => by
    rw [(Own.tracked st2.2 hz).1] at hp
    cases hp
  have oth : (tyN u).isSome = true → (((m [.fz v, .fz u]).mapE fun e => (e.1, ρ2)).bind fun r => match r.1 with | .bl k => (.ret (k, none, ρ2) : Wp XE' (Bool × Option Addr × Env')) | _ => .stuck).run (OkH c σ ρ F H fun b H' => Q (.bl b) H') (ErE c W σ ρ2 F2 H2) → (∃ t, tyN u = some t) ∧
      (m [.fz v, .fz u]).run (fun r => ∀ w F' H', Grow F2 H2 F' H' → Rep c F' w r.1 → Q w H') (fun e => ∀ d F' H', Grow F2 H2 F' H' → ExD c F' H' d e.1.fs → WE W σ (.ref (c.cA e.1.k)) d H') := fun e h => by
    refine ⟨Option.isSome_iff_exists.mp e, (m [.fz v, .fz u]).mono (fun r q w' F' H' gr rp => ?_) (fun e q d F' H' gr ex => q d F' H' (gr.stpE st2.2) ex) h⟩
    obtain ⟨r, ss⟩ := r
    cases r with
    | bl k => cases rp; exact (q F' H' (st12.trans (gr.stpE st2.2))).1 rfl
    | _ => exact q.elim
  dsimp only at h2
  cases rep2 with
  | @lst p vs g xs hF r t =>
    cases g with
    | none => exact h2.elim
    | some p' =>
      dsimp only at h2
      split at h2
      · rename_i q ys
        split at h2
        · rename_i hq
          obtain ⟨rfl, hz⟩ := hq
          obtain ⟨rfl, hB⟩ := t p' rfl
          exact ⟨p', _, rfl, rfl, hz, fun H' h3 h4 => (h2 F2 H2 st12).2 _ rfl H' ⟨hB, nOw hF, h3, .inl h4⟩⟩
        · exact h2.elim
      · exact h2.elim
  | any y => exact h2.elim
  | ins h1 r1 => exact h2.elim
  | scr h1 => exact h2.elim
  | _ => exact oth rfl h2
end
end VL

set_option Elab.async false
set_option linter.all false
set_option maxRecDepth 100000
/-! VL, part 42: +, slices: new lists with a tag from their birth. -/
namespace VL
open PySem PySem.Spec PyProof.Rows L2
variable {c : Cn} {X : Cx} {W : WX} {a b : Expr} {ga gb : GE} {pos p : Pos} {σ : St} {ρ ρ1 : Env'} {F H F1 H1 : Hp} {Q : VK}
/-- a new list that is nobody's gets its address as tag -/
theorem tagged {p : Addr} {ws : List V} {xs : List PV} {ρ2 : Env'} (st : StpE c σ ρ F H ρ2 F1 H1) (hp : H1 p = none) (r : Reps c F1 ws xs) (h : OkE c σ ρ F H Q (.lst (some p) xs, ρ2)) : Q (.ref p) (upd H1 p (.lst ws)) := by
  have gr := upd_grow (o := .lst ws) st.2.sub hp
  refine h _ _ _ (st.trans (gr.stpE st.2)) (.lst upd_same (r.mono gr.ff) fun k z => ?_)
  cases z
  exact ⟨rfl, noB st.2 hp⟩
def eAddT (g h : GE) : GE := fun ρ => (g ρ).bind fun a => (h a.2).bind fun b => match a.1, b.1 with
  | .lst _ xs, .lst _ ys => if xs.length + ys.length ≤ sizeLine then .all (fun _ : Addr => True) fun q => .ret (.lst (some q) (xs ++ ys), b.2) else .stuck
  | x, y => lift (pAdd x y) b.2
@[simp] theorem c_eAddT : eAddT ga gb ρ = (ga ρ).bind fun a => (gb a.2).bind fun b => match a.1, b.1 with
  | .lst _ xs, .lst _ ys => if xs.length + ys.length ≤ sizeLine then .all (fun _ : Addr => True) fun q => .ret (.lst (some q) (xs ++ ys), b.2) else .stuck
  | x, y => lift (pAdd x y) b.2 := (rfl)
theorem ve_addT (hk : c.K = X.K) (ha : PE X a (tE c W ga)) (hb : PE X b (tE c W gb)) : PE X (.BinOp a .Add b pos) (tE c W (eAddT ga gb)) :=
  imp_PE (pe_op op_add4 ha hb) fun σ H Q ⟨ρ, F, er, z⟩ => tE_bind er z fun v ρ1 w F1 H1 st rep h1 => tE_bind st.2 h1 fun u ρ2 y F2 H2 st2 rep2 h2 => by
    have st12 := st.trans st2
    have rep' := rep.mono st2.1.ff
    by_cases hl : ∃ g1 xs g2 ys, v = .lst g1 xs ∧ u = .lst g2 ys
    · obtain ⟨g1, xs, g2, ys, rfl, rfl⟩ := hl
      dsimp only at h2
      by_cases hz : xs.length + ys.length ≤ sizeLine
      · rw [if_pos hz] at h2
        cases rep' with
        | @lst l vs _ _ hF r t =>
          cases rep2 with
          | @lst l2 ws _ _ hF2 r2 t2 =>
            refine .inr (.inr (.inr ⟨l, l2, vs, ws, rfl, rfl, st2.2.sub _ _ hF, st2.2.sub _ _ hF2, by rw [r.length, r2.length]; exact hz, fun q hq => ?_⟩))
            exact tagged st12 hq (r.append r2) (h2 q trivial)
      · rw [if_neg hz] at h2
        exact h2.elim
    · have h3 : (lift (pAdd v u) ρ2 : Wp XE' (PV × Env')).run (OkE c σ ρ F H Q) (ErE c W σ ρ2 F2 H2) := by
        dsimp only at h2
        split at h2
        · exact absurd ⟨_, _, _, _, rfl, rfl⟩ hl
        · exact h2
      obtain ⟨x, e, h3⟩ := lift_run h3
      exact o_add hk F2 H2 w y v u x Q st2.2.sub rep' rep2 e fun w' F' H' gr rp => h3 w' F' H' (st12.trans (gr.stpE st2.2)) rp
end VL

set_option Elab.async false
set_option linter.all false
set_option maxRecDepth 100000
set_option maxHeartbeats 1000000
/-! VL, part 43: plain help: judges of values, equal data, texts of data. -/
namespace VL
open PySem PySem.Spec PyProof.Rows L2
theorem atI0 {α : Type} (x : α) (xs : List α) : atI (x :: xs) (0 : Int) = some x := atI_nat' (k := 0) rfl
theorem atI1 {α : Type} (x y : α) (xs : List α) : atI (x :: y :: xs) (1 : Int) = some y := atI_nat' (k := 1) rfl
theorem atI2 {α : Type} (x y z : α) (xs : List α) : atI (x :: y :: z :: xs) (2 : Int) = some z := atI_nat' (k := 2) rfl
theorem atI3 {α : Type} (x y z u : α) (xs : List α) : atI (x :: y :: z :: u :: xs) (3 : Int) = some u := atI_nat' (k := 3) rfl
/-! ### values of a known kind -/
def kd : PV → Bool
  | .non | .bl _ | .int _ | .str _ | .tup _ | .lst _ _ | .dic _ _ => true
  | _ => false
def whole : PV → Bool
  | .int _ => true
  | _ => false
def btw (v : PV) (lo hi : Int) : Bool := match v with
  | .int i => decide (lo ≤ i) && decide (i ≤ hi)
  | _ => false
def lenOf : PV → Option Nat
  | .tup xs => some xs.length
  | .lst _ xs => some xs.length
  | _ => none
def itemsOf : PV → List PV
  | .tup xs => xs
  | .lst _ xs => xs
  | _ => []
def tupn (n : Nat) : PV → Bool
  | .tup xs => decide (xs.length = n)
  | _ => false
def isTu : PV → Bool
  | .tup _ => true
  | _ => false
def isL : PV → Bool
  | .tup _ => true
  | .lst _ _ => true
  | _ => false
def lenB (v : PV) (lo hi : Int) : Bool := match lenOf v with
  | some n => decide (lo ≤ n) && decide ((n : Int) ≤ hi)
  | none => false
/-- a value whose items are of known kinds -/
def kq (v : PV) : Bool := kd v && decide ((itemsOf v).length ≤ 1000000) && (itemsOf v).all kd
theorem kq_kd {v : PV} (h : kq v = true) : kd v = true := by
  unfold kq at h
  rw [Bool.and_eq_true, Bool.and_eq_true] at h
  exact h.1.1
theorem kq_len {v : PV} (h : kq v = true) : (itemsOf v).length ≤ 1000000 := by
  unfold kq at h
  rw [Bool.and_eq_true, Bool.and_eq_true] at h
  exact of_decide_eq_true h.1.2
theorem kq_all {v : PV} (h : kq v = true) : ∀ x ∈ itemsOf v, kd x = true := by
  unfold kq at h
  rw [Bool.and_eq_true, Bool.and_eq_true] at h
  exact List.all_eq_true.mp h.2
/-- rising numbers -/
def ascB (ns : List Int) : Bool := (List.range (ns.length - 1)).all fun k => decide (ns.getD k 0 < ns.getD (k + 1) 0)
def arB (xs : List PV) (lo hi : Int) : Bool := xs.all fun x => btw x lo hi
/-- a tuple of rising numbers below n -/
def stB (n : Int) (v : PV) : Bool := match v with
  | .tup xs => arB xs 0 (n - 1) && match intsOf xs with
    | some ns => ascB ns
    | none => false
  | _ => false
theorem arB_ints {xs : List PV} {lo hi : Int} (h : arB xs lo hi = true) : ∃ ns : List Int, xs = ns.map .int ∧ ∀ n ∈ ns, lo ≤ n ∧ n ≤ hi := by
  induction xs with
  | nil => exact ⟨[], rfl, fun n hn => absurd hn (by simp)⟩
  | cons x xs ih =>
    have h' : btw x lo hi = true ∧ arB xs lo hi = true := by simpa [arB] using h
    obtain ⟨ns, rfl, hn⟩ := ih h'.2
    cases x with
    | int i =>
      have hi' : lo ≤ i ∧ i ≤ hi := by simpa [btw] using h'.1
      exact ⟨i :: ns, rfl, fun n m => (List.mem_cons.mp m).elim (fun e => e ▸ hi') (hn n)⟩
    | _ => exact absurd h'.1 (by simp [btw])
theorem arB_of {ns : List Int} {lo hi : Int} (h : ∀ n ∈ ns, lo ≤ n ∧ n ≤ hi) : arB (ns.map PV.int) lo hi = true := by
  unfold arB
  rw [List.all_map]
  exact List.all_eq_true.mpr fun n hn => by
    have := h n hn
    simp [btw, this.1, this.2]
theorem ascB_of {ns : List Int} (h : ns.Pairwise (· < ·)) : ascB ns = true := by
  unfold ascB
  refine List.all_eq_true.mpr fun k hk => ?_
  have hk' := List.mem_range.mp hk
  have l1 : k < ns.length := by omega
  have l2 : k + 1 < ns.length := by omega
  rw [List.getD_eq_getElem?_getD, List.getD_eq_getElem?_getD, List.getElem?_eq_getElem l1, List.getElem?_eq_getElem l2]
  exact decide_eq_true (List.pairwise_iff_getElem.mp h k (k + 1) l1 l2 (Nat.lt_succ_self k))
theorem stB_of {n : Int} {ns : List Int} (h : ∀ i ∈ ns, 0 ≤ i ∧ i < n) (a : ns.Pairwise (· < ·)) : stB n (.tup (ns.map .int)) = true := by
  unfold stB
  dsimp only
  rw [arB_of fun i hi => ⟨(h i hi).1, by have := (h i hi).2; omega⟩, intsOf_map]
  exact ascB_of a
/-! ### a list, or a tuple -/
def sq (b : Bool) (xs : List PV) : PV := if b = true then .tup xs else .lst none xs
@[simp] theorem sq_items (b : Bool) (xs : List PV) : items (sq b xs) = some xs := by cases b <;> rfl
@[simp] theorem sq_len (b : Bool) (xs : List PV) : pLen (sq b xs) = some (.int xs.length) := by cases b <;> rfl
@[simp] theorem sq_ix (b : Bool) (xs : List PV) (i : Int) : pIx (sq b xs) (.int i) = atI xs i := by cases b <;> rfl
@[simp] theorem sq_tup (b : Bool) (xs : List PV) : pTuple (sq b xs) = some (.tup xs) := by cases b <;> rfl
@[simp] theorem sq_kd (b : Bool) (xs : List PV) : kd (sq b xs) = true := by cases b <;> rfl
@[simp] theorem sq_itemsOf (b : Bool) (xs : List PV) : itemsOf (sq b xs) = xs := by cases b <;> rfl
@[simp] theorem sq_lenB (b : Bool) (xs : List PV) (lo hi : Int) : lenB (sq b xs) lo hi = (decide (lo ≤ xs.length) && decide ((xs.length : Int) ≤ hi)) := by cases b <;> rfl
/-! ### equal data -/
theorem pvDs_tups : ∀ ts : List (List Int), pvDs (ts.map tupP) = some (ts.map fun t => .tuple (t.map .int))
  | [] => rfl
  | t :: ts => by
    have e : pvD (tupP t) = some (.tuple (t.map .int)) := by
      unfold tupP pvD
      rw [pvDs_ints]
      rfl
    rw [List.map_cons, pvDs, e, pvDs_tups ts]
    rfl
theorem eqvAll_ints : ∀ a b : List Int, PyData.eqvAll (a.map .int) (b.map .int) = decide (a = b)
  | [], [] => rfl
  | [], y :: ys => rfl
  | x :: xs, [] => rfl
  | x :: xs, y :: ys => by
    rw [List.map_cons, List.map_cons]
    show (PyData.eqv (.int x) (.int y) && PyData.eqvAll (xs.map .int) (ys.map .int)) = _
    rw [eqvAll_ints xs ys]
    have e : PyData.eqv (.int x) (.int y) = decide (x = y) := by
      by_cases h : x = y
      · subst h; simp [PyData.eqv]
      · simp [PyData.eqv, h]
    rw [e]
    by_cases h : x = y <;> simp [h]
theorem eqv_ints (a b : List Int) : PyData.eqv (.tuple (a.map .int)) (.tuple (b.map .int)) = decide (a = b) := eqvAll_ints a b
theorem shaped_of {d : PyData} (h : d.canLay0 = true) (h2 : d.depth ≤ 60) : SeqAt.shaped d = true := by
  unfold SeqAt.shaped
  simp [h]
  omega
theorem shaped_tup (a : List Int) : SeqAt.shaped (.tuple (a.map .int)) = true := by
  refine shaped_of ?_ ?_
  · simp only [PyData.canLay0]
    exact (lay_ints a).1
  · simp only [PyData.depth]
    rw [(lay_ints a).2]
    omega
theorem eq_tupI (a b : List Int) : pEq (.tup (a.map .int)) (.tup (b.map .int)) = some (.bl (decide (a = b))) := by
  have e : eqB (.tup (a.map PV.int)) (.tup (b.map PV.int)) = some (decide (a = b)) := by
    show eqD _ _ = _
    unfold eqD pvD
    rw [pvDs_ints, pvDs_ints]
    dsimp only [Option.map]
    rw [if_pos ⟨shaped_tup a, shaped_tup b⟩, eqv_ints]
  unfold pEq
  rw [e]
  rfl
theorem lay_tups : ∀ ts : List (List Int), PyData.canLayAll0 (ts.map fun t => PyData.tuple (t.map PyData.int)) = true ∧ PyData.depthAll (ts.map fun t => PyData.tuple (t.map PyData.int)) ≤ 1
  | [] => ⟨rfl, Nat.zero_le _⟩
  | t :: ts => by
    have ih := lay_tups ts
    have l := lay_ints t
    constructor
    · rw [List.map_cons, PyData.canLayAll0, ih.1]
      simp only [PyData.canLay0, l.1, Bool.and_self]
    · rw [List.map_cons, PyData.depthAll]
      simp only [PyData.depth, l.2]
      omega
/-- the place of a tuple in a list of tuples of ints -/
theorem index_tups (ts : List (List Int)) (g : Option Addr) (t : List Int) (h : t ∈ ts) : ∃ j : Nat, pIndex (.lst g (ts.map tupP)) (tupP t) = some (.int j) ∧ ts[j]? = some t := by
  have sd : SeqAt.shaped (.list (ts.map fun t => PyData.tuple (t.map PyData.int))) = true := by
    refine shaped_of ?_ ?_
    · simp only [PyData.canLay0]; exact (lay_tups ts).1
    · simp only [PyData.depth]; have := (lay_tups ts).2; omega
  have e1 : pvD (tupP t) = some (.tuple (t.map .int)) := by
    unfold tupP pvD
    rw [pvDs_ints]
    rfl
  have hf : ∃ j, (ts.map fun t => PyData.tuple (t.map PyData.int)).findIdx? (fun z => PyData.eqv z (.tuple (t.map .int))) = some j ∧ ts[j]? = some t := by
    cases ef : (ts.map fun t => PyData.tuple (t.map PyData.int)).findIdx? (fun z => PyData.eqv z (.tuple (t.map .int))) with
    | none =>
      rw [List.findIdx?_eq_none_iff] at ef
      have := ef (.tuple (t.map .int)) (List.mem_map.mpr ⟨t, h, rfl⟩)
      rw [eqv_ints] at this
      simp at this
    | some j =>
      obtain ⟨z, h1, h2, _⟩ := findIdx_at ef
      rw [List.getElem?_map, Option.map_eq_some_iff] at h1
      obtain ⟨u, e, rfl⟩ := h1
      rw [eqv_ints] at h2
      exact ⟨j, rfl, by rw [e, of_decide_eq_true h2]⟩
  obtain ⟨j, e2, e3⟩ := hf
  refine ⟨j, ?_, e3⟩
  unfold pIndex
  dsimp only
  rw [pvDs_tups, e1]
  dsimp only
  rw [if_pos ⟨sd, shaped_tup t⟩, e2]
  rfl
theorem tupI_P (t : List Int) : tupI (tupP t) = some t := intsOf_map t
theorem tupsI_P : ∀ ts : List (List Int), tupsI (ts.map tupP) = some ts
  | [] => rfl
  | t :: ts => by
    rw [List.map_cons, tupsI, tupI_P, tupsI_P ts]
    rfl
theorem lSS_tups {ts : List (List Int)} (h1 : 1 ≤ ts.length) (h2 : ts.length < 64) (ok : okT (srtU HT.lexLt ts) = true) : lSS (.lst none (ts.map tupP)) = some ((srtU HT.lexLt ts).map tupP) := by
  unfold lSS
  dsimp only
  rw [if_pos (by rw [List.length_map]; exact h2)]
  have e : intsOf (ts.map tupP) = none := by
    cases ts with
    | nil => simp at h1
    | cons t ts => rfl
  rw [e, tupsI_P]
  dsimp only
  rw [if_pos ok]
theorem lSS_ints {ns : List Int} (h2 : ns.length < 64) : lSS (.lst none (ns.map .int)) = some ((srtU ltI ns).map .int) := by
  unfold lSS
  dsimp only
  rw [if_pos (by rw [List.length_map]; exact h2), intsOf_map]
theorem srtU_len {α : Type} {lt : α → α → Bool} (xs : List α) : (srtU lt xs).length ≤ xs.length := by
  induction xs with
  | nil => exact Nat.le_refl _
  | cons x xs ih =>
    have : ∀ l : List α, (insU lt x l).length ≤ l.length + 1 := fun l => by
      induction l with
      | nil => exact Nat.le_refl _
      | cons y ys ih2 =>
        unfold insU
        by_cases c : lt y x = true
        · rw [if_pos c, List.length_cons, List.length_cons]; omega
        · rw [if_neg c]
          by_cases d : lt x y = true
          · rw [if_pos d]; exact Nat.le_refl _
          · rw [if_neg d]; exact Nat.le_succ _
    show (insU lt x (srtU lt xs)).length ≤ _
    have := this (srtU lt xs)
    rw [List.length_cons]
    omega
theorem pAll_map {α : Type} (xs : List α) (f : α → Bool) : pAll (.lst none (xs.map fun x => PV.bl (f x))) = some (.bl (xs.all f)) := by
  have : xs.map (fun x => PV.bl (f x)) = (xs.map f).map PV.bl := by rw [List.map_map] <;> rfl
  show (blsOf _).map _ = _
  rw [this, blsOf_map]
  simp [List.all_map, Function.comp_def]
/-! ### texts of data -/
theorem piled_le {m : Nat} : ∀ ts : List Str, (∀ t ∈ ts, t.length ≤ m) → piled ts ≤ ts.length * (m + 2)
  | [], _ => Nat.zero_le _
  | t :: ts, h => by
    have ih := piled_le ts fun x hx => h x (List.mem_cons_of_mem _ hx)
    have h0 := h t List.mem_cons_self
    rw [piled_cons, List.length_cons, Nat.succ_mul]
    omega
theorem listText_le : ∀ ts : List Str, (listText ts).length ≤ piled ts + 2
  | [] => by decide +kernel
  | t :: r => by
    have h := textFrom_length_pos r 1 (("[" : Str) ++ (if (0 : Nat) > 0 then ", " else "" : String) ++ t) (Nat.succ_pos 0)
    have e : ((("[" : Str) ++ (if (0 : Nat) > 0 then ", " else "" : String) ++ t)).length = 1 + t.length := by
      rw [strLen_append, strLen_append]; rfl
    have hX : (listText (t :: r)).length = (textFrom 0 "[" (t :: r)).length + 1 := by
      show (textFrom 0 "[" (t :: r) ++ "]").length = _
      rw [strLen_append]; rfl
    have hY : (textFrom 0 "[" (t :: r)).length = (textFrom 1 (("[" : Str) ++ (if (0 : Nat) > 0 then ", " else "" : String) ++ t) r).length := rfl
    rw [hX, hY, h, e, piled_cons]
    omega
theorem shownAll_map {α : Type} (f : α → PyData) : ∀ xs : List α, PyData.shownAll (xs.map f) = xs.map fun x => (f x).shown
  | [] => rfl
  | x :: xs => by rw [List.map_cons, PyData.shownAll, shownAll_map f xs, List.map_cons]
theorem int_shown {i : Int} (h0 : 0 ≤ i) (h : i < 1000) : (PyData.int i).shown.length ≤ 12 := by
  have := toString_length_le (v := i) h0 (k := 3) (by decide) h
  simp only [PyData.shown]
  exact Nat.le_trans this (by decide)
theorem ints_shown {a : List Int} (h : ∀ i ∈ a, 0 ≤ i ∧ i < 1000) : (PyData.tuple (a.map .int)).shown.length ≤ a.length * 14 + 2 := by
  have e : (PyData.tuple (a.map PyData.int)).shown = tupleText (a.map fun i => (PyData.int i).shown) := by
    simp only [PyData.shown]
    rw [shownAll_map]
    simp [PyData.shown]
  rw [e]
  refine Nat.le_trans (PySem.fmt_text _) ?_
  have := piled_le (m := 12) (a.map fun i => (PyData.int i).shown) fun t ht => by
    obtain ⟨i, hi, rfl⟩ := List.mem_map.mp ht
    exact int_shown (h i hi).1 (h i hi).2
  rw [List.length_map] at this
  omega
end VL

set_option Elab.async false
set_option linter.all false
set_option maxRecDepth 100000
set_option maxHeartbeats 1000000
/-! VL, part 44: runs, step by step. -/
namespace VL
open PySem PySem.Spec PyProof.Rows L2
variable {K : PV × Env' → Prop} {E : XE' → Prop} {KS : Out → Prop} {KL : List PV × Env' → Prop} {ρ : Env'} {g h k : GE} {gl : GL} {ga : GA} {gi : GI} {t u : GT} {a b : GS} {i j l : Nat}
theorem r_ret {ε α : Type} {x : α} {P : α → Prop} {Q : ε → Prop} (h : P x) : (Wp.ret x : Wp ε α).run P Q := h
theorem r_ev {ε α : Type} {m : Wp ε α} {x : α} {P : α → Prop} {Q : ε → Prop} (e : m = .ret x) (h : P x) : m.run P Q := by rw [e]; exact h
theorem r_C {v : PV} (h : K (v, ρ)) : (eC v ρ).run K E := h
theorem r_var {v : PV} (e : ρ[i]? = some (.fz v)) (h : K (v, ρ)) : (eVar i ρ).run K E := by rw [c_eVar e]; exact h
theorem r_op1 {f : PV → Option PV} (z : (g ρ).run (fun a => ∃ v, f a.1 = some v ∧ K (v, a.2)) E) : (eOp1 f g ρ).run K E := by
  rw [c_eOp1]
  refine (g ρ).mono (fun a => ?_) (fun _ q => q) z
  rintro ⟨v, e, q⟩
  show (lift (f a.1) a.2).run K E
  rw [e]
  exact q
theorem r_op2 {f : PV → PV → Option PV} (z : (g ρ).run (fun a => (h a.2).run (fun b => ∃ v, f a.1 b.1 = some v ∧ K (v, b.2)) E) E) : (eOp2 f g h ρ).run K E := by
  rw [c_eOp2]
  refine (g ρ).mono (fun a z => (h a.2).mono (fun b => ?_) (fun _ q => q) z) (fun _ q => q) z
  rintro ⟨v, e, q⟩
  show (lift (f a.1 b.1) b.2).run K E
  rw [e]
  exact q
theorem r_if (z : (t ρ).run (fun a => if a.1 = true then (g a.2).run K E else (h a.2).run K E) E) : (eIf t g h ρ).run K E := by
  rw [c_eIf]
  refine (t ρ).mono (fun a z => ?_) (fun _ q => q) z
  dsimp only
  by_cases c : a.1 = true
  · rw [if_pos c] at z ⊢; exact z
  · rw [if_neg c] at z ⊢; exact z
theorem r_bl {KT : Bool × Env' → Prop} (z : (g ρ).run (fun a => ∃ c, a.1 = .bl c ∧ KT (c, a.2)) E) : (gBl g ρ).run KT E := by
  rw [c_gBl]
  refine (g ρ).mono (fun a => ?_) (fun _ q => q) z
  rintro ⟨c, e, q⟩
  dsimp only
  rw [e]
  exact q
theorem r_val {KT : Bool × Env' → Prop} (z : (g ρ).run (fun a => ∃ c, truth a.1 = some c ∧ KT (c, a.2)) E) : (gVal g ρ).run KT E := by
  rw [c_gVal]
  refine (g ρ).mono (fun a => ?_) (fun _ q => q) z
  rintro ⟨c, e, q⟩
  dsimp only
  rw [e]
  exact q
theorem r_not {KT : Bool × Env' → Prop} (z : (t ρ).run (fun a => KT (!a.1, a.2)) E) : (gNot t ρ).run KT E := z
theorem r_eNot (z : (g ρ).run (fun a => ∃ c, a.1 = .bl c ∧ K (.bl (!c), a.2)) E) : (eNot g ρ).run K E := by
  rw [c_eNot]
  refine (g ρ).mono (fun a => ?_) (fun _ q => q) z
  rintro ⟨c, e, q⟩
  dsimp only
  rw [e]
  exact q
theorem r_lst (z : (gl ρ).run (fun a => K (.lst none a.1, a.2)) E) : (eLst gl ρ).run K E := z
theorem r_lstT (z : (gl ρ).run (fun a => ∀ q : Addr, K (.lst (some q) a.1, a.2)) E) : (eLstT gl ρ).run K E := (gl ρ).mono (fun a z q _ => z q) (fun _ q => q) z
theorem r_disp (z : (ga ρ).run (fun a => a.1.length ≤ 1000 ∧ KL a) E) : (lDisp ga ρ).run KL E := by
  rw [c_lDisp]
  refine (ga ρ).mono (fun a => ?_) (fun _ q => q) z
  rintro ⟨e, q⟩
  dsimp only
  rw [if_pos (sl_le (by omega))]
  exact q
theorem r_tup (z : (ga ρ).run (fun a => a.1.length ≤ 1000 ∧ K (.tup a.1, a.2)) E) : (eTup ga ρ).run K E := by
  rw [c_eTup]
  refine (ga ρ).mono (fun a => ?_) (fun _ q => q) z
  rintro ⟨e, q⟩
  dsimp only
  rw [if_pos (sl_le (by omega))]
  exact q
theorem r_nil (z : KL ([], ρ)) : (aNil ρ).run KL E := z
theorem r_cons (z : (g ρ).run (fun a => (ga a.2).run (fun b => KL (a.1 :: b.1, b.2)) E) E) : (aCons g ga ρ).run KL E := z
/-- a draw -/
theorem r_take {n : Nat} {m : Nat} (hj : ρ[j]? = some (.bx n)) (hg : g ρ = .ret (.int m, ρ)) (h0 : 0 < m) (h1 : m < 1000000) (hn : n < 4000000000) (z : ∀ d : Nat, d < m → K (.int d, ρ.set j (.bx (n + 1)))) : (eCallB mTake j (aCons g aNil) ρ).run K E := by
  rw [take_val hg hj (by omega) (by omega) (by omega)]
  intro d hd
  obtain ⟨d, rfl⟩ := Int.eq_ofNat_of_zero_le hd.1
  exact z d (by have := hd.2; omega)
theorem r_takeC {n : Nat} {m : Nat} (hj : ρ[j]? = some (.bx n)) (h0 : 0 < m) (h1 : m < 1000000) (hn : n < 4000000000) (z : ∀ d : Nat, d < m → K (.int d, ρ.set j (.bx (n + 1)))) : (eCallB mTake j (aCons (eC (.int m)) aNil) ρ).run K E := r_take hj (by simp) h0 h1 hn z
/-- one of a display's things, drawn -/
theorem r_pick {m : Nat} (h0 : 0 < m) (h1 : m ≤ 1000) (z : (ga ρ).run (fun r => r.1.length = m ∧ ∃ n, r.2[j]? = some (.bx n) ∧ n < 4000000000 ∧ ∀ x ∈ r.1, K (x, r.2.set j (.bx (n + 1)))) E) : (eOp2 pIx (eLst (lDisp ga)) (eCallB mTake j (aCons (eC (.int m)) aNil)) ρ).run K E := by
  refine r_op2 (r_lst (r_disp ((ga ρ).mono (fun r => ?_) (fun _ q => q) z)))
  rintro ⟨hl, n, hj, hn, q⟩
  refine ⟨by omega, r_takeC hj h0 (by omega) hn fun d hd => ?_⟩
  have hd' : d < r.1.length := by omega
  exact ⟨r.1[d], atI_nat' (List.getElem?_eq_getElem hd'), q _ (List.getElem_mem hd')⟩
/-! ### statements -/
theorem r_set (z : (g ρ).run (fun x => (b (x.2.set i (.fz x.1))).run KS E) E) : (sSeq (sSet i g) b ρ).run KS E := z
theorem r_own (z : (gl ρ).run (fun x => (b (x.2.set i (.ow x.1))).run KS E) E) : (sSeq (sOwn i gl) b ρ).run KS E := z
theorem r_par (z : (g ρ).run (fun x => (h x.2).run (fun y => (b ((y.2.set i (.fz x.1)).set j (.fz y.1))).run KS E) E) E) : (sSeq (sPar i j g h) b ρ).run KS E := z
theorem r_parEL (z : (g ρ).run (fun x => (gl x.2).run (fun y => (b ((y.2.set i (.fz x.1)).set j (.ow y.1))).run KS E) E) E) : (sSeq (sParEL i j g gl) b ρ).run KS E := z
theorem r_par3 (z : (g ρ).run (fun x => (h x.2).run (fun y => (k y.2).run (fun w => (b (((w.2.set i (.fz x.1)).set j (.fz y.1)).set l (.fz w.1))).run KS E) E) E) E) : (sSeq (sPar3 i j l g h k) b ρ).run KS E := z
theorem r_sRet (z : (g ρ).run (fun x => KS (.rt x.1 x.2)) E) : (sRet g ρ).run KS E := z
theorem r_sDrop (z : (g ρ).run (fun x => (b x.2).run KS E) E) : (sSeq (sDrop g) b ρ).run KS E := z
theorem r_pub {xs : List PV} (e : ρ[i]? = some (.ow xs)) (z : (a (ρ.set i (.fz (.lst none xs)))).run KS E) : (sPub i a ρ).run KS E := by
  rw [c_sPub, e]
  exact z
/-- xs.append(e) -/
theorem r_app (e : ownAt ρ i = true) (z : (g ρ).run (fun x => ∃ xs, x.2[i]? = some (.ow xs) ∧ xs.length < 1000000 ∧ KS (.nx (x.2.set i (.ow (xs ++ [x.1]))))) E) : (sAppO i g ρ).run KS E := by
  rw [c_sAppO, if_pos e]
  refine (g ρ).mono (fun x => ?_) (fun _ q => q) z
  rintro ⟨xs, e, hz, q⟩
  dsimp only
  rw [e]
  dsimp only
  rw [if_pos (by rw [sizeLine_eq]; omega)]
  exact q
/-- the first statement is no end -/
theorem r_seq (z : (a ρ).run (fun o => ∃ ρ1, o = .nx ρ1 ∧ (b ρ1).run KS E) E) : (sSeq a b ρ).run KS E := by
  rw [c_sSeq]
  refine (a ρ).mono (fun o => ?_) (fun _ q => q) z
  rintro ⟨ρ1, rfl, q⟩
  exact q
theorem r_sIf {c d : GS} (z : (t ρ).run (fun x => if x.1 = true then (c x.2).run KS E else (d x.2).run KS E) E) : (sIf t c d ρ).run KS E := by
  rw [c_sIf]
  refine (t ρ).mono (fun x z => ?_) (fun _ q => q) z
  dsimp only
  by_cases e : x.1 = true
  · rw [if_pos e] at z ⊢; exact z
  · rw [if_neg e] at z ⊢; exact z
/-! ### defs -/
theorem r_fn {n : Nat} {pn : Nat → Bool} {ss : List SV} {KF : PV × List SV → Prop} {EF : Ex × List SV → Prop} (hp : pinned pn ss = true) (z : (a (ss ++ List.replicate (n - ss.length) .un)).run (fun o => match o with
    | .nx ρ => KF (.non, outs ss ρ)
    | .rt v ρ => KF (v, outs ss ρ)
    | _ => False) (fun e => EF (e.1, outs ss e.2))) : (fnV n pn a ss).run KF EF := by
  rw [fnV_eq hp]
  exact (a _).mono (fun o z => by cases o <;> exact z) (fun _ q => q) z
/-- a call with a box -/
theorem r_callB {m : GF} (ho : ownAt ρ i = true) (z : (ga ρ).run (fun x => ∃ n, x.2[i]? = some (.bx n) ∧ (m (.bx n :: fzs x.1)).run (fun r => K (r.1, x.2.set i (r.2.headD .un))) (fun e => E (e.1, x.2.set i (e.2.headD .un)))) E) : (eCallB m i ga ρ).run K E := by
  rw [c_eCallB, if_pos ho]
  refine (ga ρ).mono (fun x => ?_) (fun _ q => q) z
  rintro ⟨n, e, q⟩
  exact boxCall_run e q
theorem r_call {m : GF} (z : (ga ρ).run (fun x => (m (fzs x.1)).run (fun r => K (r.1, x.2)) (fun e => E (e.1, x.2))) E) : (eCall m ga ρ).run K E := z
theorem r_new {k : Nat} {m : GN} (z : (ga ρ).run (fun x => ∃ fs, m x.1 = .ret fs ∧ K (.ins k fs, x.2)) E) : (eNew k m ga ρ).run K E := by
  unfold eNew
  refine (ga ρ).mono (fun x => ?_) (fun _ q => q) z
  rintro ⟨fs, e, q⟩
  show ((m x.1).mapE _).run _ _
  rw [e]
  exact q
theorem r_mono {ε α : Type} {m : Wp ε α} {P P' : α → Prop} {Q : ε → Prop} (z : m.run P Q) (h : ∀ x, P x → P' x) : m.run P' Q := m.mono h (fun _ q => q) z
end VL

set_option Elab.async false
set_option linter.all false
set_option maxRecDepth 100000
set_option maxHeartbeats 1000000
/-! VL, part 45: cuts of sequences; small trees. -/
namespace VL
open PySem PySem.Spec PyProof.Rows L2
@[simp] theorem c_sPar {i j : Nat} {g h : GE} {ρ : Env'} : sPar i j g h ρ = (g ρ).bind fun a => (h a.2).bind fun b => .ret (.nx ((b.2.set i (.fz a.1)).set j (.fz b.1))) := (rfl)
@[simp] theorem c_sPar3 {i j l : Nat} {g h k : GE} {ρ : Env'} : sPar3 i j l g h k ρ = (g ρ).bind fun a => (h a.2).bind fun b => (k b.2).bind fun d => .ret (.nx (((d.2.set i (.fz a.1)).set j (.fz b.1)).set l (.fz d.1))) := (rfl)
@[simp] theorem c_sParEL {i j : Nat} {g : GE} {h : GL} {ρ : Env'} : sParEL i j g h ρ = (g ρ).bind fun a => (h a.2).bind fun b => .ret (.nx ((b.2.set i (.fz a.1)).set j (.ow b.1))) := (rfl)
@[simp] theorem c_sParLE {i j : Nat} {g : GL} {h : GE} {ρ : Env'} : sParLE i j g h ρ = (g ρ).bind fun a => (h a.2).bind fun b => .ret (.nx ((b.2.set i (.ow a.1)).set j (.fz b.1))) := (rfl)
@[simp] theorem c_sParLL {i j : Nat} {g h : GL} {ρ : Env'} : sParLL i j g h ρ = (g ρ).bind fun a => (h a.2).bind fun b => .ret (.nx ((b.2.set i (.ow a.1)).set j (.ow b.1))) := (rfl)
@[simp] theorem c_eFld' {fs : List Str} {f : Str} {k : Nat} {g : GE} {ρ : Env'} : eFld fs f k g ρ = (g ρ).bind fun a => lift (fldP fs f k a.1) a.2 := (rfl)
@[simp] theorem c_eNew' {k : Nat} {m : GN} {ga : GA} {ρ : Env'} : eNew k m ga ρ = (ga ρ).bind fun a => ((m a.1).mapE fun e => (e, a.2)).bind fun fs => .ret (.ins k fs, a.2) := (rfl)
@[simp] theorem c_sDrop' {g : GE} {ρ : Env'} : sDrop g ρ = (g ρ).bind fun a => .ret (.nx a.2) := (rfl)
@[simp] theorem c_sTgt' {f : GG} {g : GE} {ρ : Env'} : sTgt f g ρ = (g ρ).bind fun a => match f a.1 a.2 with | some ρ' => .ret (.nx ρ') | none => .stuck := (rfl)
theorem sIx_nat (n : Nat) (d : Nat) {k : Nat} (h : k ≤ n) : HT.sIx n d (some (k : Int)) = k := by
  rw [HT.sIx_nat]
  omega
theorem sIx_m1 (n d : Nat) : HT.sIx n d (some (-1)) = n - 1 := by
  show (if (-1 : Int) < 0 then ((-1 : Int) + (n : Int)).toNat else min (-1 : Int).toNat n) = n - 1
  rw [if_pos (by decide)]
  omega
theorem sIx_none (n d : Nat) : HT.sIx n d none = d := rfl
theorem cut_from {α : Type} (xs : List α) {k : Nat} (h : k ≤ xs.length) : cutP xs (some (k : Int)) none = xs.drop k := by
  unfold cutP
  rw [sIx_nat _ _ h, sIx_none, ← List.length_drop, List.take_length]
theorem cut_to {α : Type} (xs : List α) {k : Nat} (h : k ≤ xs.length) : cutP xs none (some (k : Int)) = xs.take k := by
  unfold cutP
  rw [sIx_nat _ _ h, sIx_none, List.drop_zero, Nat.sub_zero]
theorem cut_to1 {α : Type} (xs : List α) : cutP xs none (some (-1)) = xs.take (xs.length - 1) := by
  unfold cutP
  rw [sIx_m1, sIx_none, List.drop_zero, Nat.sub_zero]
theorem cut_last {α : Type} (xs : List α) : cutP xs (some (-1)) none = xs.drop (xs.length - 1) := by
  unfold cutP
  rw [sIx_m1, sIx_none, ← List.length_drop, List.take_length]
theorem pSl_tup (xs : List PV) (lo hi : Option Int) : pSl (.tup xs) lo hi = some (.tup (cutP xs lo hi)) := rfl
theorem pSl_lst (g : Option Addr) (xs : List PV) (lo hi : Option Int) : pSl (.lst g xs) lo hi = some (.lst none (cutP xs lo hi)) := rfl
theorem pAdd_tup {xs ys : List PV} (h : xs.length + ys.length ≤ 16777216) : pAdd (.tup xs) (.tup ys) = some (.tup (xs ++ ys)) := by
  show (if xs.length + ys.length ≤ sizeLine then some (PV.tup (xs ++ ys)) else none) = _
  rw [if_pos (sl_le h)]
theorem pAdd_lst {g g' : Option Addr} {xs ys : List PV} (h : xs.length + ys.length ≤ 16777216) : pAdd (.lst g xs) (.lst g' ys) = some (.lst none (xs ++ ys)) := by
  show (if xs.length + ys.length ≤ sizeLine then some (PV.lst none (xs ++ ys)) else none) = _
  rw [if_pos (sl_le h)]
theorem pAdd_int (a b : Int) : pAdd (.int a) (.int b) = some (.int (a + b)) := rfl
theorem pSub_int (a b : Int) : pSub (.int a) (.int b) = some (.int (a - b)) := rfl
theorem pNeg_int (a : Int) : pNeg (.int a) = some (.int (-a)) := rfl
theorem smz_tup {n : Nat} {xs : List PV} (h : xs.length ≤ 16777216) (z : ∀ x ∈ xs, smz n x = true) : smz (n + 1) (.tup xs) = true := by
  unfold smz
  rw [smzs_all z]
  simp [h]
theorem smz_lst {n : Nat} {g : Option Addr} {xs : List PV} (h : xs.length ≤ 16777216) (z : ∀ x ∈ xs, smz n x = true) : smz (n + 1) (.lst g xs) = true := by
  unfold smz
  rw [smzs_all z]
  simp [h]
theorem smz_int {n : Nat} (i : Int) : smz (n + 1) (.int i) = true := rfl
theorem smz_ints {n : Nat} {ns : List Int} (h : ns.length ≤ 16777216) : smz (n + 2) (.tup (ns.map .int)) = true := smz_tup (by rw [List.length_map]; exact h) fun x hx => by
  obtain ⟨i, _, rfl⟩ := List.mem_map.mp hx
  rfl
theorem map_at {α : Type} {xs : List α} {f : α → PV} {k : Nat} {x : PV} (h : (xs.map f)[k]? = some x) : ∃ a, a ∈ xs ∧ xs[k]? = some a ∧ x = f a := by
  rw [List.getElem?_map, Option.map_eq_some_iff] at h
  obtain ⟨a, e, rfl⟩ := h
  exact ⟨a, List.mem_of_getElem? e, e, rfl⟩
theorem take_one {α : Type} {xs : List α} {k : Nat} {a : α} (h : xs[k]? = some a) : xs.take (k + 1) = xs.take k ++ [a] := by
  rw [List.take_succ, h]; rfl
theorem sne {x y : PySem.Str} (h : x ≠ y) : pNe (.str x) (.str y) = some (.bl true) := by simp [pNe, eqB, h]
theorem sne_same (x : PySem.Str) : pNe (.str x) (.str x) = some (.bl false) := by simp [pNe, eqB]
theorem seq_same (x : PySem.Str) : pEq (.str x) (.str x) = some (.bl true) := by simp [pEq, eqB]
theorem seq_ne {x y : PySem.Str} (h : x ≠ y) : pEq (.str x) (.str y) = some (.bl false) := by simp [pEq, eqB, h]
end VL

set_option Elab.async false
set_option linter.all false
set_option maxRecDepth 100000
set_option maxHeartbeats 1000000
/-! VL, part 46: runs of comprehensions and loops. -/
namespace VL
open PySem PySem.Spec PyProof.Rows L2
variable {K : PV × Env' → Prop} {E : XE' → Prop} {KS : Out → Prop} {KL : List PV × Env' → Prop} {ρ : Env'} {g h k : GE} {gl : GL} {ga : GA} {gi : GI} {t u : GT} {a b : GS} {i j l : Nat}
theorem r_lcI {ii : List Nat} {f : GG} {gt : GT} {ge : GE} (z : (gi ρ).run (fun x => (lLc ii (fun ρ => .ret (x.1, ρ)) f gt ge x.2).run KL E) E) : (lLc ii gi f gt ge ρ).run KL E := z
theorem r_rng {g : GE} (z : (g ρ).run (fun x => ∃ n : Nat, x.1 = .int n ∧ n ≤ 1000000 ∧ KL ((List.range n).map fun (k : Nat) => PV.int k, x.2)) E) : (iRng g ρ).run KL E := by
  rw [c_iRng]
  refine (g ρ).mono (fun x => ?_) (fun _ q => q) z
  rintro ⟨n, e, hn, q⟩
  dsimp only
  rw [e, iRange_len (sl_le (by omega))]
  exact q
theorem r_seqI {g : GE} (z : (g ρ).run (fun x => ∃ xs, items x.1 = some xs ∧ KL (xs, x.2)) E) : (iSeq g ρ).run KL E := by
  rw [c_iSeq]
  refine (g ρ).mono (fun x => ?_) (fun _ q => q) z
  rintro ⟨n, e, q⟩
  dsimp only
  rw [e]
  exact q
theorem r_lOp1 {f : PV → Option (List PV)} (z : (g ρ).run (fun x => ∃ xs, f x.1 = some xs ∧ KL (xs, x.2)) E) : (lOp1 f g ρ).run KL E := by
  rw [c_lOp1]
  refine (g ρ).mono (fun x => ?_) (fun _ q => q) z
  rintro ⟨n, e, q⟩
  dsimp only
  rw [e]
  exact q
theorem set_set_comm {α : Type} (xs : List α) {i j : Nat} (h : i ≠ j) (x y : α) : (xs.set i x).set j y = (xs.set j y).set i x := List.set_comm x y h
theorem get_set_ne {xs : List SV} {i j : Nat} {x : SV} (h : i ≠ j) : (xs.set i x)[j]? = xs[j]? := List.getElem?_set_ne h
theorem own_set_ne {ρ : Env'} {i j : Nat} {x : SV} (h : i ≠ j) : ownAt (ρ.set i x) j = ownAt ρ j := by
  unfold ownAt
  rw [get_set_ne h]
/-- a list of draws, each below m -/
theorem r_draws {n m : Nat} {xs : List PV} (hi : gi ρ = .ret (xs, ρ)) (hj : ρ[j]? = some (.bx n)) (ho : ownAt ρ i = false) (hl : i < ρ.length) (hij : i ≠ j) (hg : ∀ n' x, g ((ρ.set j (.bx n')).set i (.fz x)) = .ret (.int m, (ρ.set j (.bx n')).set i (.fz x))) (h0 : 0 < m) (h1 : m < 1000000) (hx : xs.length ≤ 1000000) (hn : n < 2000000000)
    (hK : ∀ ys : List Nat, ys.length = xs.length → (∀ y ∈ ys, y < m) → KL (ys.map fun (y : Nat) => .int y, ρ.set j (.bx (n + xs.length)))) : (lLc [i] gi (gN i) gYes (eCallB mTake j (aCons g aNil)) ρ).run KL E := by
  have hjl : j < ρ.length := (List.getElem?_eq_some_iff.mp hj).1
  refine lLc_run (xs := xs) (fun q ρ1 => ρ1 = ρ.set j (.bx (n + q)) ∨ ∃ x, ρ1 = (ρ.set j (.bx (n + q))).set i (.fz x)) (fun y => ∃ d : Nat, y = .int d ∧ d < m) hi (sl_le (by omega)) (by simp [frozenAt, ho]) (.inl (by
    rw [Nat.add_zero]
    exact (List.ext_getElem? fun q => by
      by_cases e : j = q
      · subst e; rw [List.getElem?_set_self hjl, hj]
      · rw [List.getElem?_set_ne e]).symm)) (fun x hx' q ρ1 hq hC => ?_) fun ys ρ' hlen hP hC => ?_
  · have e : wipeE ρ1 [i] = ((ρ.set j (.bx (n + q))).set i .un) := by
      rcases hC with rfl | ⟨y, rfl⟩
      · rfl
      · show (((ρ.set j (.bx (n + q))).set i (.fz y))).set i .un = _
        rw [List.set_set]
    refine ⟨(ρ.set j (.bx (n + q))).set i (.fz x), ?_, rfl, fun {K E} hK => ?_⟩
    · rw [e]
      show some _ = some _
      rw [List.set_set]
    · refine r_take (n := n + q) (m := m) ?_ (hg _ _) h0 h1 (by omega) fun d hd => ?_
      · rw [get_set_ne hij, List.getElem?_set_self hjl]
      · refine hK _ _ ⟨d, rfl, hd⟩ (.inr ⟨x, ?_⟩)
        rw [set_set_comm _ hij, List.set_set]
        rfl
  · have hb : backE ρ' ρ [i] = ρ.set j (.bx (n + xs.length)) := by
      refine backE_gen (i := i) hC ?_ ho
      rw [get_set_ne (Ne.symm hij)]
    rw [hb]
    have : ∃ ds : List Nat, ys = ds.map (fun (y : Nat) => PV.int y) ∧ ∀ y ∈ ds, y < m := by
      clear hlen hC hb
      induction ys with
      | nil => exact ⟨[], rfl, fun y hy => absurd hy (by simp)⟩
      | cons y ys ih =>
        obtain ⟨ds, rfl, hd⟩ := ih fun y hy => hP y (List.mem_cons_of_mem _ hy)
        obtain ⟨d, rfl, hdm⟩ := hP y List.mem_cons_self
        exact ⟨d :: ds, rfl, fun y hy => (List.mem_cons.mp hy).elim (fun e => e ▸ hdm) (hd y)⟩
    obtain ⟨ds, rfl, hd⟩ := this
    exact hK ds (by rw [List.length_map] at hlen; exact hlen) hd
/-- a loop with an invariant -/
theorem r_for {f : GG} (C : Nat → Env' → Prop) (z : (gi ρ).run (fun x => C 0 x.2 ∧ (∀ (k : Nat) (v : PV), x.1[k]? = some v → ∀ ρ1, C k ρ1 → ∃ ρ2, f v ρ1 = some ρ2 ∧ ∀ {K : Out → Prop} {E : XE' → Prop}, (∀ ρ', C (k + 1) ρ' → K (.nx ρ')) → (a ρ2).run K E) ∧ ∀ ρ', C x.1.length ρ' → KS (.nx ρ')) E) : (sFor f gi a ρ).run KS E := by
  rw [c_sFor]
  refine (gi ρ).mono (fun x => ?_) (fun _ q => q) z
  rintro ⟨h0, hs, hK⟩
  refine for_inv C x.1 0 x.2 h0 (fun k v hk ρ1 hC => ?_) fun ρ' hC => hK ρ' (by rwa [Nat.zero_add] at hC)
  rw [Nat.zero_add] at hC ⊢
  exact hs k v hk ρ1 hC
end VL

set_option Elab.async false
set_option linter.all false
set_option maxRecDepth 100000
set_option maxHeartbeats 1000000
/-! VL, part 47: comprehensions that draw, more of them. -/
namespace VL
open PySem PySem.Spec PyProof.Rows L2
variable {K : PV × Env' → Prop} {E : XE' → Prop} {KS : Out → Prop} {KL : List PV × Env' → Prop} {ρ : Env'} {g h k : GE} {gl : GL} {ga : GA} {gi : GI} {t u : GT} {a b : GS} {i j l : Nat}
theorem max_ok (a b : Nat) : pMax2 (.int a) (.int b) = some (.int ((max a b : Nat) : Int)) := by
  unfold pMax2
  dsimp only
  congr 2
  split <;> omega
theorem min_ok (a b : Nat) : pMin2 (.int a) (.int b) = some (.int ((min a b : Nat) : Int)) := by
  unfold pMin2
  dsimp only
  congr 2
  split <;> omega
theorem lcLoop_invT {ii : List Nat} {f : GG} {gt : GT} {ge : GE} {E : XE' → Prop} (J : Nat → List PV → Env' → Prop) : ∀ (xs : List PV) (n : Nat) (acc : List PV) (ρ1 : Env') {K : List PV × Env' → Prop}, J n acc ρ1 →
    (∀ (k : Nat) (x : PV), xs[k]? = some x → ∀ acc ρ1, J (n + k) acc ρ1 → ∃ ρ2, f x (wipeE ρ1 ii) = some ρ2 ∧ ∀ {KT : Bool × Env' → Prop} {E : XE' → Prop}, (∀ ρ3, J (n + k + 1) acc ρ3 → KT (false, ρ3)) → (∀ ρ3, (∀ {K : PV × Env' → Prop} {E : XE' → Prop}, (∀ y ρ4, J (n + k + 1) (acc ++ [y]) ρ4 → K (y, ρ4)) → (ge ρ3).run K E) → KT (true, ρ3)) → (gt ρ2).run KT E) →
    (∀ ys ρ', J (n + xs.length) (acc ++ ys) ρ' → K (ys, ρ')) → (lcLoop ii f gt ge xs ρ1).run K E
  | [], n, acc, ρ1, K, h, _, hK => hK [] ρ1 (by rw [List.append_nil]; exact h)
  | x :: xs, n, acc, ρ1, K, h, hs, hK => by
    obtain ⟨ρ2, e1, e2⟩ := hs 0 x rfl acc ρ1 h
    have hs' : ∀ (k : Nat) (x : PV), xs[k]? = some x → ∀ acc ρ1, J (n + 1 + k) acc ρ1 → ∃ ρ2, f x (wipeE ρ1 ii) = some ρ2 ∧ ∀ {KT : Bool × Env' → Prop} {E : XE' → Prop}, (∀ ρ3, J (n + 1 + k + 1) acc ρ3 → KT (false, ρ3)) → (∀ ρ3, (∀ {K : PV × Env' → Prop} {E : XE' → Prop}, (∀ y ρ4, J (n + 1 + k + 1) (acc ++ [y]) ρ4 → K (y, ρ4)) → (ge ρ3).run K E) → KT (true, ρ3)) → (gt ρ2).run KT E := fun k y hy acc ρ1 hj => by
      have q := hs (k + 1) y (by simpa using hy) acc ρ1 (by rw [show n + (k + 1) = n + 1 + k by omega]; exact hj)
      rw [show n + (k + 1) + 1 = n + 1 + k + 1 by omega] at q
      exact q
    have el : n + (x :: xs).length = n + 1 + xs.length := by rw [List.length_cons]; omega
    unfold lcLoop
    rw [e1]
    dsimp only
    rw [Wp.run_bind]
    refine e2 (fun ρ3 j3 => ?_) fun ρ3 h3 => ?_
    · dsimp only
      rw [if_neg (by decide)]
      exact lcLoop_invT J xs (n + 1) acc ρ3 j3 hs' fun ys ρ' hj' => hK ys ρ' (by rw [el]; exact hj')
    · dsimp only
      rw [if_pos rfl, Wp.run_bind]
      refine h3 fun y ρ4 hj => ?_
      rw [Wp.run_bind]
      exact lcLoop_invT (K := fun r => K (y :: r.1, r.2)) J xs (n + 1) (acc ++ [y]) ρ4 hj hs' fun ys ρ' hj' => hK (y :: ys) ρ' (by rw [el]; rw [List.append_assoc] at hj'; exact hj')
/-- a comprehension whose test draws -/
theorem lLc_invT {ii : List Nat} {gi : GI} {f : GG} {gt : GT} {ge : GE} {ρ : Env'} {xs : List PV} {K : List PV × Env' → Prop} {E : XE' → Prop} (J : Nat → List PV → Env' → Prop) (hi : gi ρ = .ret (xs, ρ)) (hz : xs.length ≤ sizeLine) (fr : frozenAt ρ ii = true) (hJ : J 0 [] ρ)
    (hs : ∀ (k : Nat) (x : PV), xs[k]? = some x → ∀ acc ρ1, J k acc ρ1 → ∃ ρ2, f x (wipeE ρ1 ii) = some ρ2 ∧ ∀ {KT : Bool × Env' → Prop} {E : XE' → Prop}, (∀ ρ3, J (k + 1) acc ρ3 → KT (false, ρ3)) → (∀ ρ3, (∀ {K : PV × Env' → Prop} {E : XE' → Prop}, (∀ y ρ4, J (k + 1) (acc ++ [y]) ρ4 → K (y, ρ4)) → (ge ρ3).run K E) → KT (true, ρ3)) → (gt ρ2).run KT E)
    (hK : ∀ ys ρ', J xs.length ys ρ' → K (ys, backE ρ' ρ ii)) : (lLc ii gi f gt ge ρ).run K E := by
  unfold lLc
  rw [hi]
  simp only [Wp.ret_bind]
  rw [if_pos ⟨hz, fr⟩]
  simp only [Wp.run_bind, noEx_run]
  exact lcLoop_invT J xs 0 [] ρ hJ (fun k x hx acc ρ1 hj => by
    rw [Nat.zero_add] at hj ⊢
    exact hs k x hx acc ρ1 hj) fun ys ρ' hj => hK ys ρ' (by rw [Nat.zero_add, List.nil_append] at hj; exact hj)
theorem set_bx_self {ρ : Env'} {j n : Nat} (hj : ρ[j]? = some (.bx n)) : ρ.set j (.bx n) = ρ := List.ext_getElem? fun q => by
  by_cases e : j = q
  · subst e; rw [List.getElem?_set_self (List.getElem?_eq_some_iff.mp hj).1, hj]
  · rw [List.getElem?_set_ne e]
/-- a list of things drawn -/
theorem r_lcP {n c : Nat} {xs : List PV} {ge : GE} (P : PV → Prop) (hi : gi ρ = .ret (xs, ρ)) (hj : ρ[j]? = some (.bx n)) (ho : ownAt ρ i = false) (hij : i ≠ j) (hx : xs.length ≤ 1000000)
    (hs : ∀ x ∈ xs, ∀ n', n' ≤ n + c * xs.length → ∀ {K : PV × Env' → Prop} {E : XE' → Prop}, (∀ y n'', n'' ≤ n' + c → P y → K (y, (ρ.set j (.bx n'')).set i (.fz x))) → (ge ((ρ.set j (.bx n')).set i (.fz x))).run K E)
    (hK : ∀ ys n', ys.length = xs.length → (∀ y ∈ ys, P y) → n' ≤ n + c * xs.length → KL (ys, ρ.set j (.bx n'))) : (lLc [i] gi (gN i) gYes ge ρ).run KL E := by
  refine lLc_run (xs := xs) (fun q ρ1 => ∃ n', n' ≤ n + c * q ∧ (ρ1 = ρ.set j (.bx n') ∨ ∃ x, ρ1 = (ρ.set j (.bx n')).set i (.fz x))) P hi (sl_le (by omega)) (by simp [frozenAt, ho]) ⟨n, by omega, .inl (set_bx_self hj).symm⟩ (fun x hx' q ρ1 hq hC => ?_) fun ys ρ' hlen hP hC => ?_
  · obtain ⟨n', h1, hC⟩ := hC
    have e : wipeE ρ1 [i] = ((ρ.set j (.bx n')).set i .un) := by
      rcases hC with rfl | ⟨y, rfl⟩
      · rfl
      · show (((ρ.set j (.bx n')).set i (.fz y))).set i .un = _
        rw [List.set_set]
    refine ⟨(ρ.set j (.bx n')).set i (.fz x), ?_, rfl, fun {K E} hK => ?_⟩
    · rw [e]
      show some _ = some _
      rw [List.set_set]
    · refine hs x hx' n' (Nat.le_trans h1 (Nat.add_le_add_left (Nat.mul_le_mul_left _ (by omega)) _)) fun y n'' h2 h3 => hK y _ h3 ⟨n'', ?_, .inr ⟨x, rfl⟩⟩
      rw [Nat.mul_add, Nat.mul_one]
      omega
  · obtain ⟨n', h1, hC⟩ := hC
    have hb : backE ρ' ρ [i] = ρ.set j (.bx n') := by
      refine backE_gen (i := i) hC ?_ ho
      rw [get_set_ne (Ne.symm hij)]
    rw [hb]
    exact hK ys n' hlen hP h1
/-- some of a list's things, drawn -/
theorem r_some {n c : Nat} {xs : List PV} {gt : GT} (hi : gi ρ = .ret (xs, ρ)) (hj : ρ[j]? = some (.bx n)) (ho : ownAt ρ i = false) (hl : i < ρ.length) (hij : i ≠ j) (hx : xs.length ≤ 1000000)
    (hs : ∀ x ∈ xs, ∀ n', n' ≤ n + c * xs.length → ∀ {KT : Bool × Env' → Prop} {E : XE' → Prop}, (∀ y n'', n'' ≤ n' + c → KT (y, (ρ.set j (.bx n'')).set i (.fz x))) → (gt ((ρ.set j (.bx n')).set i (.fz x))).run KT E)
    (hK : ∀ ys n', ys.Sublist xs → n' ≤ n + c * xs.length → KL (ys, ρ.set j (.bx n'))) : (lLc [i] gi (gN i) gt (eVar i) ρ).run KL E := by
  refine lLc_invT (xs := xs) (fun q acc ρ1 => ∃ n', n' ≤ n + c * q ∧ acc.Sublist (xs.take q) ∧ (ρ1 = ρ.set j (.bx n') ∨ ∃ x, ρ1 = (ρ.set j (.bx n')).set i (.fz x))) hi (sl_le (by omega)) (by simp [frozenAt, ho]) ⟨n, by omega, List.Sublist.refl _, .inl (set_bx_self hj).symm⟩ (fun q x hq acc ρ1 hC => ?_) fun ys ρ' hC => ?_
  · obtain ⟨n', h1, hsub, hC⟩ := hC
    have hxm : x ∈ xs := List.mem_of_getElem? hq
    have hq' : q < xs.length := (List.getElem?_eq_some_iff.mp hq).1
    have e : wipeE ρ1 [i] = ((ρ.set j (.bx n')).set i .un) := by
      rcases hC with rfl | ⟨y, rfl⟩
      · rfl
      · show (((ρ.set j (.bx n')).set i (.fz y))).set i .un = _
        rw [List.set_set]
    refine ⟨(ρ.set j (.bx n')).set i (.fz x), ?_, fun {KT E} hF hT => ?_⟩
    · rw [e]
      show some _ = some _
      rw [List.set_set]
    · refine hs x hxm n' (Nat.le_trans h1 (Nat.add_le_add_left (Nat.mul_le_mul_left _ (by omega)) _)) fun y n'' h2 => ?_
      have hb : n'' ≤ n + c * (q + 1) := by rw [Nat.mul_add, Nat.mul_one]; omega
      have hs' : acc.Sublist (xs.take (q + 1)) := hsub.trans (by rw [take_one hq]; exact List.sublist_append_left _ _)
      cases y with
      | false => exact hF _ ⟨n'', hb, hs', .inr ⟨x, rfl⟩⟩
      | true =>
        refine hT _ fun {K E} hK => ?_
        refine r_var (v := x) (by rw [List.getElem?_set_self (by rw [List.length_set]; exact hl)]) (hK x _ ⟨n'', hb, ?_, .inr ⟨x, rfl⟩⟩)
        rw [take_one hq]
        exact hsub.append (List.Sublist.refl _)
  · obtain ⟨n', h1, hsub, hC⟩ := hC
    have hb : backE ρ' ρ [i] = ρ.set j (.bx n') := by
      refine backE_gen (i := i) hC ?_ ho
      rw [get_set_ne (Ne.symm hij)]
    rw [hb]
    rw [List.take_length] at hsub
    exact hK ys n' hsub h1
/-- a draw whose bound is worked out by more than a look -/
theorem r_takeG (ho : ownAt ρ j = true) (z : (g ρ).run (fun x => ∃ m n : Nat, x.1 = .int m ∧ x.2[j]? = some (.bx n) ∧ 0 < m ∧ m < 1000000 ∧ n < 4000000000 ∧ ∀ d : Nat, d < m → K (.int d, x.2.set j (.bx (n + 1)))) E) : (eCallB mTake j (aCons g aNil) ρ).run K E := by
  rw [c_eCallB, if_pos ho]
  refine (g ρ).mono (fun x => ?_) (fun _ q => q) z
  rintro ⟨m, n, e1, e2, h0, h1, hn, q⟩
  have t := r_takeC (K := K) (E := E) e2 h0 h1 hn q
  have ho' : ownAt x.2 j = true := by unfold ownAt; rw [e2]; rfl
  rw [c_eCallB, if_pos ho'] at t
  show (boxCall mTake j [x.1] x.2).run K E
  rw [e1]
  exact t
theorem r_tupRg (z : (gi ρ).run (fun x => x.1.length ≤ 1000000 ∧ K (.tup x.1, x.2)) E) : (eTupRg gi ρ).run K E := by
  rw [c_eTupRg]
  refine (gi ρ).mono (fun x => ?_) (fun _ q => q) z
  rintro ⟨e, q⟩
  dsimp only
  rw [if_pos (by omega)]
  exact q
theorem r_tgt {f : GG} (z : (g ρ).run (fun x => ∃ ρ2, f x.1 x.2 = some ρ2 ∧ (b ρ2).run KS E) E) : (sSeq (sTgt f g) b ρ).run KS E := by
  rw [c_sSeq, c_sTgt', Wp.run_bind, Wp.run_bind]
  refine (g ρ).mono (fun x => ?_) (fun _ q => q) z
  rintro ⟨ρ2, e, q⟩
  rw [e]
  exact q
/-- the environment in other words -/
theorem r_env {a : GS} (ρ' : Env') (e : ρ = ρ') (z : (a ρ').run KS E) : (a ρ).run KS E := e ▸ z
/-- a list of whole numbers below m, in other words -/
theorem nats_of {m : Nat} : ∀ {ys : List PV}, (∀ y ∈ ys, ∃ d : Nat, y = .int d ∧ d < m) → ∃ ds : List Int, ys = ds.map .int ∧ ∀ i ∈ ds, 0 ≤ i ∧ i < m
  | [], _ => ⟨[], rfl, fun i h => nomatch h⟩
  | y :: ys, h => by
    obtain ⟨d, rfl, hd⟩ := h y List.mem_cons_self
    obtain ⟨ds, rfl, hs⟩ := nats_of fun y hy => h y (List.mem_cons_of_mem _ hy)
    refine ⟨d :: ds, rfl, fun i hi => ?_⟩
    rcases List.mem_cons.mp hi with e | e
    · rw [e]; omega
    · exact hs i e
end VL

set_option Elab.async false
set_option linter.all false
set_option maxRecDepth 100000
set_option maxHeartbeats 1000000
/-! VL, part 48: runs of tests that change a list. -/
namespace VL
open PySem PySem.Spec PyProof.Rows L2
variable {K : PV × Env' → Prop} {E : XE' → Prop} {KS : Out → Prop} {KL : List PV × Env' → Prop} {ρ : Env'} {g h k : GE} {gl : GL} {ga : GA} {gi : GI} {t u : GT} {a b : GS} {i j l : Nat}
theorem r_fnT {n : Nat} {pn : Nat → Bool} {ss : List SV} {KF : PV × List SV → Prop} {EF : Ex × List SV → Prop} (hp : pinned pn ss = true) (hs : ss.map SV.er = ss) (z : (a (ss ++ List.replicate (n - ss.length) .un)).run (fun o => match o with
    | .nx ρ => KF (.non, (outs ss ρ).map SV.er)
    | .rt v ρ => KF (v.er, (outs ss ρ).map SV.er)
    | .th (some b) ρ => KF (.bl b, (outs ss (ρ.map SV.bxo)).map SV.er)
    | _ => False) (fun _ => False)) : (fnT n pn a ss).run KF EF := by
  unfold fnT
  rw [if_pos hp, hs, Wp.run_bind]
  show ((a (ss ++ List.replicate (n - ss.length) .un)).run _ fun _ => False)
  refine (a _).mono (fun o z => ?_) (fun _ q => q) z
  cases o with
  | th b ρ => cases b <;> exact z
  | _ => exact z
/-- + of two lists, with a tag -/
theorem r_addTL (z : (g ρ).run (fun x => (h x.2).run (fun y => ∃ p q xs ys, x.1 = .lst p xs ∧ y.1 = .lst q ys ∧ xs.length + ys.length ≤ 1000000 ∧ ∀ t : Addr, K (.lst (some t) (xs ++ ys), y.2)) E) E) : (eAddT g h ρ).run K E := by
  rw [c_eAddT]
  refine (g ρ).mono (fun x z => (h x.2).mono (fun y => ?_) (fun _ q => q) z) (fun _ q => q) z
  rintro ⟨p, q, xs, ys, e1, e2, hl, w⟩
  dsimp only
  rw [e1, e2]
  dsimp only
  rw [if_pos (sl_le (by omega))]
  intro t _
  exact w t
/-- .. of two tuples -/
theorem r_addTP (z : (g ρ).run (fun x => (h x.2).run (fun y => ∃ xs ys, x.1 = .tup xs ∧ y.1 = .tup ys ∧ xs.length + ys.length ≤ 1000000 ∧ K (.tup (xs ++ ys), y.2)) E) E) : (eAddT g h ρ).run K E := by
  rw [c_eAddT]
  refine (g ρ).mono (fun x z => (h x.2).mono (fun y => ?_) (fun _ q => q) z) (fun _ q => q) z
  rintro ⟨xs, ys, e1, e2, hl, w⟩
  dsimp only
  rw [e1, e2]
  dsimp only
  rw [pAdd_tup (by omega)]
  exact w
theorem hV1_lst {m : GF} {q : Addr} {xs : List PV} (e1 : g ρ = .ret (.lst (some q) xs, ρ)) (e2 : h ρ = .ret (.lst (some q) xs, ρ)) (hl : xs.length ≤ 1000000) : hV1 m g h ρ = .ret (true, some q, ρ) := by
  unfold hV1
  rw [e1]
  simp only [Wp.ret_bind]
  rw [e2]
  simp only [Wp.ret_bind]
  rw [if_pos ⟨trivial, by rw [sizeLine_eq]; omega⟩]
theorem hV1_val {m : GF} {v : PV} {us : List SV} (e1 : g ρ = .ret (v, ρ)) (e2 : h ρ = .ret (v, ρ)) (hv : ∀ g xs, v ≠ .lst g xs) (ht : (tyN v).isSome = true) (hm : m [.fz v, .fz v] = .ret (.bl true, us)) : hV1 m g h ρ = .ret (true, none, ρ) := by
  unfold hV1
  rw [e1]
  simp only [Wp.ret_bind]
  rw [e2]
  simp only [Wp.ret_bind]
  cases v with
  | lst g xs => exact absurd rfl (hv g xs)
  | _ => first
    | (simp only [hm, Wp.mapE_ret, Wp.ret_bind]; rw [if_pos ht])
    | cases ht
/-- the end of a law's defs that refuse -/
theorem r_sRetH {gh : GH} {q : Option Addr} (e1 : g ρ = .ret (.bl true, ρ)) (e2 : gh ρ = .ret (true, q, ρ)) (z1 : ∀ q, KS (.th (some true) (ρ.map (thawS q)))) (z2 : KS (.rt (.bl true) ρ)) : (sRetH (hAndE g gh) ρ).run KS E := by
  unfold sRetH hAndE
  rw [e1]
  simp only [Wp.ret_bind]
  rw [e2]
  simp only [Wp.ret_bind]
  cases q with
  | none => exact z2
  | some q => exact z1 q
theorem erL_ints : ∀ ns : List Int, erL (ns.map .int) = ns.map .int
  | [] => rfl
  | n :: ns => by simp only [List.map_cons, erL, PV.er, erL_ints ns]
theorem er_ints (ns : List Int) : (PV.tup (ns.map .int)).er = .tup (ns.map .int) := by rw [PV.er, erL_ints]
theorem erL_id {xs : List PV} (h : ∀ x ∈ xs, x.er = x) : erL xs = xs := by
  induction xs with
  | nil => rfl
  | cons x xs ih => rw [erL, h x List.mem_cons_self, ih fun y hy => h y (List.mem_cons_of_mem _ hy)]
theorem er_sq (b : Bool) {xs : List PV} (h : ∀ x ∈ xs, x.er = x) : (sq b xs).er = sq b xs := by
  cases b
  · show PV.er (.lst none xs) = _
    rw [PV.er, erL_id h]; rfl
  · show PV.er (.tup xs) = _
    rw [PV.er, erL_id h]; rfl
end VL

set_option Elab.async false
set_option linter.all false
set_option maxRecDepth 100000
set_option maxHeartbeats 1000000
namespace k02
open PySem PySem.Spec PyProof.Rows L2 VL
def topS (i : Nat) : Stmt := PySem.Challenge.pw_nestedhands_k02_bought_plants.main.body.getD i (.Pass ⟨0, 0, 0, 0⟩)
def clsS (i j : Nat) : Stmt := match topS i with
  | .ClassDef _ _ _ b _ _ _ _ _ _ _ => b.getD j (.Pass ⟨0, 0, 0, 0⟩)
  | s => s
/-- which error is caught by which clause -/
def exT (k j : Nat) : Option Bool := match k, j with
  | 1, 0 => some true
  | 1, 1 => some true
  | 1, 2 => some false
  | 1, 3 => some false
  | 1, 4 => some false
  | 1, 5 => some false
  | 1, 6 => some false
  | 2, 0 => some true
  | 2, 1 => some false
  | 2, 2 => some true
  | 2, 3 => some false
  | 2, 4 => some false
  | 2, 5 => some false
  | 2, 6 => some false
  | 3, 0 => some true
  | 3, 1 => some false
  | 3, 2 => some false
  | 3, 3 => some true
  | 3, 4 => some false
  | 3, 5 => some false
  | 3, 6 => some false
  | 4, 0 => some true
  | 4, 1 => some false
  | 4, 2 => some false
  | 4, 3 => some false
  | 4, 4 => some true
  | 4, 5 => some false
  | 4, 6 => some false
  | 5, 0 => some true
  | 5, 1 => some false
  | 5, 2 => some false
  | 5, 3 => some false
  | 5, 4 => some false
  | 5, 5 => some true
  | 5, 6 => some false
  | 6, 0 => some true
  | 6, 1 => some false
  | 6, 2 => some false
  | 6, 3 => some false
  | 6, 4 => some false
  | 6, 5 => some false
  | 6, 6 => some true
  | _, _ => none
def eN : Nat → Str
  | 0 => "WireError"
  | 1 => "InvalidActs"
  | 2 => "InvalidChosen"
  | 3 => "InvalidLooks"
  | 4 => "InvalidOffers"
  | 5 => "InvalidSteps"
  | 6 => "TooMany"
  | 7 => "Plant"
  | _ => "WireError"
abbrev s_is_whole : Stmt := topS 9
abbrev s_is_between : Stmt := topS 10
abbrev s_is_list : Stmt := topS 11
abbrev s_is_list_of : Stmt := topS 12
abbrev s_is_tuple_of : Stmt := topS 13
abbrev s_are_between : Stmt := topS 14
abbrev s_is_ascending : Stmt := topS 15
abbrev s_is_states : Stmt := topS 16
abbrev s_is_some_states : Stmt := topS 17
abbrev s_is_looks : Stmt := topS 22
abbrev s_is_plant_steps : Stmt := topS 23
abbrev s_is_offer : Stmt := topS 29
abbrev s_check_offers : Stmt := topS 30
abbrev s_bought : Stmt := topS 31
abbrev s_bought_plant : Stmt := topS 32
abbrev s__law_cell : Stmt := topS 34
abbrev s__law_box : Stmt := topS 35
abbrev s__law_take : Stmt := topS 36
abbrev s__law_same : Stmt := topS 37
abbrev s__law_very : Stmt := topS 38
abbrev s__law_plant : Stmt := topS 39
abbrev s__law_codes : Stmt := topS 40
abbrev s__law_offers : Stmt := topS 41
abbrev s__law_chosen : Stmt := topS 42
abbrev s__law_due : Stmt := topS 43
abbrev s__law_asked : Stmt := topS 44
abbrev s__law_frozen : Stmt := topS 45
abbrev s__law_is_plant : Stmt := topS 46
abbrev s__law_asked_right : Stmt := topS 47
abbrev s__law_bad_offer : Stmt := topS 48
abbrev s__law_refused : Stmt := topS 49
abbrev s__law_right : Stmt := topS 50
abbrev s_law : Stmt := topS 51
abbrev s_InvalidActs : Stmt := clsS 2 0
abbrev s_InvalidChosen : Stmt := clsS 3 0
abbrev s_InvalidLooks : Stmt := clsS 4 0
abbrev s_InvalidOffers : Stmt := clsS 5 0
abbrev s_InvalidSteps : Stmt := clsS 6 0
abbrev s_TooMany : Stmt := clsS 7 0
abbrev si_Plant : Stmt := clsS 24 0
abbrev se_Plant : Stmt := clsS 24 1
def flds_Plant : List Str := ["acts", "looks", "steps"]
/-- what is told of the top -/
structure Txt (K : PySem.W.Frag) (w : World) (mg : Str → Option Value) : Prop where
  f_abs : mg "abs" = none
  f_all : mg "all" = none
  f_bool : mg "bool" = none
  f_int : mg "int" = none
  f_isinstance : mg "isinstance" = none
  f_len : mg "len" = none
  f_list : mg "list" = none
  f_max : mg "max" = none
  f_min : mg "min" = none
  f_range : mg "range" = none
  f_repr : mg "repr" = none
  f_set : mg "set" = none
  f_sorted : mg "sorted" = none
  f_str : mg "str" = none
  f_sum : mg "sum" = none
  f_tuple : mg "tuple" = none
  i_MOST_HANDS : ∃ t, mg "MOST_HANDS" = some (.int 6 t)
  i_MOST_LOOK : ∃ t, mg "MOST_LOOK" = some (.int 7 t)
  i_MOST_PLANT : ∃ t, mg "MOST_PLANT" = some (.int 24 t)
  i_MOST_OFFERS : ∃ t, mg "MOST_OFFERS" = some (.int 5 t)
  i_MOST_PRICE : ∃ t, mg "MOST_PRICE" = some (.int 20 t)
  i_MOST_SHOWN : ∃ t, mg "MOST_SHOWN" = some (.int 3 t)
  d_is_whole : Dh K mg "is_whole" s_is_whole
  d_is_between : Dh K mg "is_between" s_is_between
  d_is_list : Dh K mg "is_list" s_is_list
  d_is_list_of : Dh K mg "is_list_of" s_is_list_of
  d_is_tuple_of : Dh K mg "is_tuple_of" s_is_tuple_of
  d_are_between : Dh K mg "are_between" s_are_between
  d_is_ascending : Dh K mg "is_ascending" s_is_ascending
  d_is_states : Dh K mg "is_states" s_is_states
  d_is_some_states : Dh K mg "is_some_states" s_is_some_states
  d_is_looks : Dh K mg "is_looks" s_is_looks
  d_is_plant_steps : Dh K mg "is_plant_steps" s_is_plant_steps
  d_is_offer : Dh K mg "is_offer" s_is_offer
  d_check_offers : Dh K mg "check_offers" s_check_offers
  d_bought : Dh K mg "bought" s_bought
  d_bought_plant : Dh K mg "bought_plant" s_bought_plant
  d__law_cell : Dh K mg "_law_cell" s__law_cell
  d__law_box : Dh K mg "_law_box" s__law_box
  d__law_take : Dh K mg "_law_take" s__law_take
  d__law_same : Dh K mg "_law_same" s__law_same
  d__law_very : Dh K mg "_law_very" s__law_very
  d__law_plant : Dh K mg "_law_plant" s__law_plant
  d__law_codes : Dh K mg "_law_codes" s__law_codes
  d__law_offers : Dh K mg "_law_offers" s__law_offers
  d__law_chosen : Dh K mg "_law_chosen" s__law_chosen
  d__law_due : Dh K mg "_law_due" s__law_due
  d__law_asked : Dh K mg "_law_asked" s__law_asked
  d__law_frozen : Dh K mg "_law_frozen" s__law_frozen
  d__law_is_plant : Dh K mg "_law_is_plant" s__law_is_plant
  d__law_asked_right : Dh K mg "_law_asked_right" s__law_asked_right
  d__law_bad_offer : Dh K mg "_law_bad_offer" s__law_bad_offer
  d__law_refused : Dh K mg "_law_refused" s__law_refused
  d__law_right : Dh K mg "_law_right" s__law_right
  d_law : Dh K mg "law" s_law
  g_WireError : mg "WireError" = some (.ref (He.ga K "WireError"))
  g_InvalidActs : mg "InvalidActs" = some (.ref (He.ga K "InvalidActs"))
  g_InvalidChosen : mg "InvalidChosen" = some (.ref (He.ga K "InvalidChosen"))
  g_InvalidLooks : mg "InvalidLooks" = some (.ref (He.ga K "InvalidLooks"))
  g_InvalidOffers : mg "InvalidOffers" = some (.ref (He.ga K "InvalidOffers"))
  g_InvalidSteps : mg "InvalidSteps" = some (.ref (He.ga K "InvalidSteps"))
  g_TooMany : mg "TooMany" = some (.ref (He.ga K "TooMany"))
  x_InvalidActs : ExcT K (He.ga K "InvalidActs") (He.ma K (He.ga K "InvalidActs") "__init__") "given"
  n_InvalidActs : ∃ fd, Fun K "__init__" "InvalidActs.__init__" s_InvalidActs (He.ma K (He.ga K "InvalidActs") "__init__") fd
  x_InvalidChosen : ExcT K (He.ga K "InvalidChosen") (He.ma K (He.ga K "InvalidChosen") "__init__") "given"
  n_InvalidChosen : ∃ fd, Fun K "__init__" "InvalidChosen.__init__" s_InvalidChosen (He.ma K (He.ga K "InvalidChosen") "__init__") fd
  x_InvalidLooks : ExcT K (He.ga K "InvalidLooks") (He.ma K (He.ga K "InvalidLooks") "__init__") "given"
  n_InvalidLooks : ∃ fd, Fun K "__init__" "InvalidLooks.__init__" s_InvalidLooks (He.ma K (He.ga K "InvalidLooks") "__init__") fd
  x_InvalidOffers : ExcT K (He.ga K "InvalidOffers") (He.ma K (He.ga K "InvalidOffers") "__init__") "given"
  n_InvalidOffers : ∃ fd, Fun K "__init__" "InvalidOffers.__init__" s_InvalidOffers (He.ma K (He.ga K "InvalidOffers") "__init__") fd
  x_InvalidSteps : ExcT K (He.ga K "InvalidSteps") (He.ma K (He.ga K "InvalidSteps") "__init__") "given"
  n_InvalidSteps : ∃ fd, Fun K "__init__" "InvalidSteps.__init__" s_InvalidSteps (He.ma K (He.ga K "InvalidSteps") "__init__") fd
  x_TooMany : ExcT K (He.ga K "TooMany") (He.ma K (He.ga K "TooMany") "__init__") "count"
  n_TooMany : ∃ fd, Fun K "__init__" "TooMany.__init__" s_TooMany (He.ma K (He.ga K "TooMany") "__init__") fd
  g_Plant : mg "Plant" = some (.ref (He.ga K "Plant"))
  c_Plant : ClsT K (He.ga K "Plant") (He.ma K (He.ga K "Plant") "__init__") flds_Plant
  k_Plant : KitC K (He.ga K "Plant")
  ni_Plant : ∃ fd, Fun K "__init__" "Plant.__init__" si_Plant (He.ma K (He.ga K "Plant") "__init__") fd
  q_Plant : EqF K (He.ga K "Plant") (He.ma K (He.ga K "Plant") "__eq__")
  ne_Plant : ∃ fd, Fun K "__eq__" "Plant.__eq__" se_Plant (He.ma K (He.ga K "Plant") "__eq__") fd
  em : ∀ k j b, exT k j = some b → PySem.W.exmOne K (.ref (He.ga K (eN k))) (.ref (He.ga K (eN j))) = some b
abbrev cc (K : PySem.W.Frag) (B : Addr → Prop) : Cn := ⟨K, fun k => He.ga K (eN k), B⟩
theorem Txt.exm {K : PySem.W.Frag} {w : World} {mg : Str → Option Value} {B : Addr → Prop} (T : Txt K w mg) : ExmOk (cc K B) exT := T.em
section
variable {P : Program} {w : World} {K : PySem.W.Frag} {mg : Str → Option Value} {base : Heap} {B : Addr → Prop}
theorem sc_InvalidActs : FnScope ["self", "given"] ["self", "given"] (defScope s_InvalidActs) := ⟨rfl, rfl, rfl, by decide +kernel, rfl, by decide +kernel, by decide +kernel⟩
theorem ec_InvalidActs (T : Txt K w mg) : Ec P w K mg base (cc K B) 1 "InvalidActs" 1 "given" := by
  obtain ⟨fd, Fn⟩ := T.n_InvalidActs
  exact ec_ok rfl rfl T.x_InvalidActs T.g_InvalidActs (init_ok T.x_InvalidActs Fn sc_InvalidActs fun cdv A outer s H E => pss_one (ps_ost (pv 0) (pv 1))) (Fn.binds fun _ _ _ _ _ _ us hl => match us, hl with | [_, _], _ => rfl)
theorem sc_InvalidChosen : FnScope ["self", "given"] ["self", "given"] (defScope s_InvalidChosen) := ⟨rfl, rfl, rfl, by decide +kernel, rfl, by decide +kernel, by decide +kernel⟩
theorem ec_InvalidChosen (T : Txt K w mg) : Ec P w K mg base (cc K B) 1 "InvalidChosen" 2 "given" := by
  obtain ⟨fd, Fn⟩ := T.n_InvalidChosen
  exact ec_ok rfl rfl T.x_InvalidChosen T.g_InvalidChosen (init_ok T.x_InvalidChosen Fn sc_InvalidChosen fun cdv A outer s H E => pss_one (ps_ost (pv 0) (pv 1))) (Fn.binds fun _ _ _ _ _ _ us hl => match us, hl with | [_, _], _ => rfl)
theorem sc_InvalidLooks : FnScope ["self", "given"] ["self", "given"] (defScope s_InvalidLooks) := ⟨rfl, rfl, rfl, by decide +kernel, rfl, by decide +kernel, by decide +kernel⟩
theorem ec_InvalidLooks (T : Txt K w mg) : Ec P w K mg base (cc K B) 1 "InvalidLooks" 3 "given" := by
  obtain ⟨fd, Fn⟩ := T.n_InvalidLooks
  exact ec_ok rfl rfl T.x_InvalidLooks T.g_InvalidLooks (init_ok T.x_InvalidLooks Fn sc_InvalidLooks fun cdv A outer s H E => pss_one (ps_ost (pv 0) (pv 1))) (Fn.binds fun _ _ _ _ _ _ us hl => match us, hl with | [_, _], _ => rfl)
theorem sc_InvalidOffers : FnScope ["self", "given"] ["self", "given"] (defScope s_InvalidOffers) := ⟨rfl, rfl, rfl, by decide +kernel, rfl, by decide +kernel, by decide +kernel⟩
theorem ec_InvalidOffers (T : Txt K w mg) : Ec P w K mg base (cc K B) 1 "InvalidOffers" 4 "given" := by
  obtain ⟨fd, Fn⟩ := T.n_InvalidOffers
  exact ec_ok rfl rfl T.x_InvalidOffers T.g_InvalidOffers (init_ok T.x_InvalidOffers Fn sc_InvalidOffers fun cdv A outer s H E => pss_one (ps_ost (pv 0) (pv 1))) (Fn.binds fun _ _ _ _ _ _ us hl => match us, hl with | [_, _], _ => rfl)
theorem sc_InvalidSteps : FnScope ["self", "given"] ["self", "given"] (defScope s_InvalidSteps) := ⟨rfl, rfl, rfl, by decide +kernel, rfl, by decide +kernel, by decide +kernel⟩
theorem ec_InvalidSteps (T : Txt K w mg) : Ec P w K mg base (cc K B) 1 "InvalidSteps" 5 "given" := by
  obtain ⟨fd, Fn⟩ := T.n_InvalidSteps
  exact ec_ok rfl rfl T.x_InvalidSteps T.g_InvalidSteps (init_ok T.x_InvalidSteps Fn sc_InvalidSteps fun cdv A outer s H E => pss_one (ps_ost (pv 0) (pv 1))) (Fn.binds fun _ _ _ _ _ _ us hl => match us, hl with | [_, _], _ => rfl)
theorem sc_TooMany : FnScope ["self", "count"] ["self", "count"] (defScope s_TooMany) := ⟨rfl, rfl, rfl, by decide +kernel, rfl, by decide +kernel, by decide +kernel⟩
theorem ec_TooMany (T : Txt K w mg) : Ec P w K mg base (cc K B) 1 "TooMany" 6 "count" := by
  obtain ⟨fd, Fn⟩ := T.n_TooMany
  exact ec_ok rfl rfl T.x_TooMany T.g_TooMany (init_ok T.x_TooMany Fn sc_TooMany fun cdv A outer s H E => pss_one (ps_ost (pv 0) (pv 1))) (Fn.binds fun _ _ _ _ _ _ us hl => match us, hl with | [_, _], _ => rfl)
theorem sc_is_whole : FnScope ["value"] ["value"] (defScope s_is_whole) := ⟨rfl, rfl, rfl, by decide +kernel, rfl, by decide +kernel, by decide +kernel⟩
def b_is_whole : GS := sRet (eAnd (eOp1 (pIsi "int") (eVar 0)) (eNot (eOp1 (pIsi "bool") (eVar 0))))
def m_is_whole : GF := fnV 1 noPin b_is_whole
theorem fo_is_whole (T : Txt K w mg)  : ∃ f fd, mg "is_whole" = some (.ref f) ∧ FnOk P w K mg base (L2.CX P w) 1 f fd ["value"] (SpV (cc K B) 1 m_is_whole) ∧ Fun K "is_whole" "is_whole" s_is_whole f fd := by
  obtain ⟨f, fd, hm, Fn⟩ := T.d_is_whole
  exact ⟨f, fd, hm, fn_ok (c := cc K B) (N := ["value"]) (pn := noPin) rfl Fn sc_is_whole rfl (by decide) (fun cdv A outer s H E hr => vss_one (vs_ret (ve_and (ve_isi rfl rfl T.f_isinstance b_isinstance (ve_var (pv 0)) rfl T.f_int b_int) (ve_one (ve_not (ve_isi rfl rfl T.f_isinstance b_isinstance (ve_var (pv 0)) rfl T.f_bool b_bool)))))), Fn⟩
theorem fv_is_whole (T : Txt K w mg)  : Fv P w K mg base (cc K B) 1 "is_whole" 1 m_is_whole := by
  obtain ⟨f, fd, hm, ok, Fn⟩ := fo_is_whole (P := P) (base := base) (B := B) T 
  exact ⟨f, fd, ["value"], rfl, hm, ok, Fn.kp, Fn.binds fun _ _ _ _ _ _ us hl => match us, hl with | [_], _ => rfl⟩
theorem sc_is_between : FnScope ["value", "least", "most"] ["value", "least", "most"] (defScope s_is_between) := ⟨rfl, rfl, rfl, by decide +kernel, rfl, by decide +kernel, by decide +kernel⟩
def b_is_between : GS := sRet (eAnd (eCall m_is_whole (aCons (eVar 0) (aNil))) (eChain pLe pLe (eVar 1) (eVar 0) (eVar 2)))
def m_is_between : GF := fnV 3 noPin b_is_between
theorem fo_is_between (T : Txt K w mg) (F_is_whole : Fv P w K mg base (cc K B) 1 "is_whole" 1 m_is_whole) : ∃ f fd, mg "is_between" = some (.ref f) ∧ FnOk P w K mg base (L2.CX P w) 2 f fd ["value", "least", "most"] (SpV (cc K B) 3 m_is_between) ∧ Fun K "is_between" "is_between" s_is_between f fd := by
  obtain ⟨f, fd, hm, Fn⟩ := T.d_is_between
  exact ⟨f, fd, hm, fn_ok (c := cc K B) (N := ["value", "least", "most"]) (pn := noPin) rfl Fn sc_is_between rfl (by decide) (fun cdv A outer s H E hr => vss_one (vs_ret (ve_and (ve_call F_is_whole hr (by decide) rfl (takes_of rfl rfl rfl rfl) (va_cons (ve_var (pv 0)) (va_nil))) (ve_one (ve_chain op_le o_leB op_le o_le (ve_var (pv 1)) (ve_var (pv 0)) (ve_var (pv 2))))))), Fn⟩
theorem fv_is_between (T : Txt K w mg) (F_is_whole : Fv P w K mg base (cc K B) 1 "is_whole" 1 m_is_whole) : Fv P w K mg base (cc K B) 2 "is_between" 3 m_is_between := by
  obtain ⟨f, fd, hm, ok, Fn⟩ := fo_is_between (P := P) (base := base) (B := B) T F_is_whole
  exact ⟨f, fd, ["value", "least", "most"], rfl, hm, ok, Fn.kp, Fn.binds fun _ _ _ _ _ _ us hl => match us, hl with | [_, _, _], _ => rfl⟩
theorem sc_is_list : FnScope ["value"] ["value"] (defScope s_is_list) := ⟨rfl, rfl, rfl, by decide +kernel, rfl, by decide +kernel, by decide +kernel⟩
def b_is_list : GS := sRet (eOp1 (pIsiT ["list", "tuple"]) (eVar 0))
def m_is_list : GF := fnV 1 noPin b_is_list
theorem fo_is_list (T : Txt K w mg)  : ∃ f fd, mg "is_list" = some (.ref f) ∧ FnOk P w K mg base (L2.CX P w) 1 f fd ["value"] (SpV (cc K B) 1 m_is_list) ∧ Fun K "is_list" "is_list" s_is_list f fd := by
  obtain ⟨f, fd, hm, Fn⟩ := T.d_is_list
  exact ⟨f, fd, hm, fn_ok (c := cc K B) (N := ["value"]) (pn := noPin) rfl Fn sc_is_list rfl (by decide) (fun cdv A outer s H E hr => vss_one (vs_ret (ve_isiT rfl rfl T.f_isinstance b_isinstance (by rw [sizeLine_eq]; decide) (by simp) (ve_var (pv 0)) (.cons rfl T.f_list b_list (by decide) (by decide) (.cons rfl T.f_tuple b_tuple (by decide) (by decide) (.nil) rfl) rfl)))), Fn⟩
theorem fv_is_list (T : Txt K w mg)  : Fv P w K mg base (cc K B) 1 "is_list" 1 m_is_list := by
  obtain ⟨f, fd, hm, ok, Fn⟩ := fo_is_list (P := P) (base := base) (B := B) T 
  exact ⟨f, fd, ["value"], rfl, hm, ok, Fn.kp, Fn.binds fun _ _ _ _ _ _ us hl => match us, hl with | [_], _ => rfl⟩
theorem sc_is_list_of : FnScope ["value", "least", "most"] ["value", "least", "most"] (defScope s_is_list_of) := ⟨rfl, rfl, rfl, by decide +kernel, rfl, by decide +kernel, by decide +kernel⟩
def b_is_list_of : GS := sRet (eAnd (eCall m_is_list (aCons (eVar 0) (aNil))) (eChain pLe pLe (eVar 1) (eOp1 pLen (eVar 0)) (eVar 2)))
def m_is_list_of : GF := fnV 3 noPin b_is_list_of
theorem fo_is_list_of (T : Txt K w mg) (F_is_list : Fv P w K mg base (cc K B) 1 "is_list" 1 m_is_list) : ∃ f fd, mg "is_list_of" = some (.ref f) ∧ FnOk P w K mg base (L2.CX P w) 2 f fd ["value", "least", "most"] (SpV (cc K B) 3 m_is_list_of) ∧ Fun K "is_list_of" "is_list_of" s_is_list_of f fd := by
  obtain ⟨f, fd, hm, Fn⟩ := T.d_is_list_of
  exact ⟨f, fd, hm, fn_ok (c := cc K B) (N := ["value", "least", "most"]) (pn := noPin) rfl Fn sc_is_list_of rfl (by decide) (fun cdv A outer s H E hr => vss_one (vs_ret (ve_and (ve_call F_is_list hr (by decide) rfl (takes_of rfl rfl rfl rfl) (va_cons (ve_var (pv 0)) (va_nil))) (ve_one (ve_chain op_le o_leB op_le o_le (ve_var (pv 1)) (ve_callB call_len2 (o_len rfl) rfl T.f_len b_len (ve_var (pv 0))) (ve_var (pv 2))))))), Fn⟩
theorem fv_is_list_of (T : Txt K w mg) (F_is_list : Fv P w K mg base (cc K B) 1 "is_list" 1 m_is_list) : Fv P w K mg base (cc K B) 2 "is_list_of" 3 m_is_list_of := by
  obtain ⟨f, fd, hm, ok, Fn⟩ := fo_is_list_of (P := P) (base := base) (B := B) T F_is_list
  exact ⟨f, fd, ["value", "least", "most"], rfl, hm, ok, Fn.kp, Fn.binds fun _ _ _ _ _ _ us hl => match us, hl with | [_, _, _], _ => rfl⟩
theorem sc_is_tuple_of : FnScope ["value", "many"] ["value", "many"] (defScope s_is_tuple_of) := ⟨rfl, rfl, rfl, by decide +kernel, rfl, by decide +kernel, by decide +kernel⟩
def b_is_tuple_of : GS := sRet (eAnd (eOp1 (pIsi "tuple") (eVar 0)) (eOp2 pEq (eOp1 pLen (eVar 0)) (eVar 1)))
def m_is_tuple_of : GF := fnV 2 noPin b_is_tuple_of
theorem fo_is_tuple_of (T : Txt K w mg)  : ∃ f fd, mg "is_tuple_of" = some (.ref f) ∧ FnOk P w K mg base (L2.CX P w) 1 f fd ["value", "many"] (SpV (cc K B) 2 m_is_tuple_of) ∧ Fun K "is_tuple_of" "is_tuple_of" s_is_tuple_of f fd := by
  obtain ⟨f, fd, hm, Fn⟩ := T.d_is_tuple_of
  exact ⟨f, fd, hm, fn_ok (c := cc K B) (N := ["value", "many"]) (pn := noPin) rfl Fn sc_is_tuple_of rfl (by decide) (fun cdv A outer s H E hr => vss_one (vs_ret (ve_and (ve_isi rfl rfl T.f_isinstance b_isinstance (ve_var (pv 0)) rfl T.f_tuple b_tuple) (ve_one (ve_cmp (op_eq2 (hu64 hr)) (o_eq rfl) rfl (ve_callB call_len2 (o_len rfl) rfl T.f_len b_len (ve_var (pv 0))) (ve_var (pv 1))))))), Fn⟩
theorem fv_is_tuple_of (T : Txt K w mg)  : Fv P w K mg base (cc K B) 1 "is_tuple_of" 2 m_is_tuple_of := by
  obtain ⟨f, fd, hm, ok, Fn⟩ := fo_is_tuple_of (P := P) (base := base) (B := B) T 
  exact ⟨f, fd, ["value", "many"], rfl, hm, ok, Fn.kp, Fn.binds fun _ _ _ _ _ _ us hl => match us, hl with | [_, _], _ => rfl⟩
theorem sc_are_between : FnScope ["values", "least", "most", "value"] ["values", "least", "most"] (defScope s_are_between) := ⟨rfl, rfl, rfl, by decide +kernel, rfl, by decide +kernel, by decide +kernel⟩
def b_are_between : GS := sRet (eOp1 pAll (eLst (lLc [3] (iSeq (eVar 0)) (gN 3) (gYes) (eCall m_is_between (aCons (eVar 3) (aCons (eVar 1) (aCons (eVar 2) (aNil))))))))
def m_are_between : GF := fnV 4 noPin b_are_between
theorem fo_are_between (T : Txt K w mg) (F_is_between : Fv P w K mg base (cc K B) 2 "is_between" 3 m_is_between) : ∃ f fd, mg "are_between" = some (.ref f) ∧ FnOk P w K mg base (L2.CX P w) 3 f fd ["values", "least", "most"] (SpV (cc K B) 3 m_are_between) ∧ Fun K "are_between" "are_between" s_are_between f fd := by
  obtain ⟨f, fd, hm, Fn⟩ := T.d_are_between
  exact ⟨f, fd, hm, fn_ok (c := cc K B) (N := ["values", "least", "most", "value"]) (pn := noPin) rfl Fn sc_are_between rfl (by decide) (fun cdv A outer s H E hr => vss_one (vs_ret (ve_callB (cr_all rfl) (o_all rfl) rfl T.f_all b_all (ve_lst (vl_lc rfl sc_are_between.nd (vi_seq rfl (ve_var (pv 0))) (blkOk_by (own := [("value", 3)]) (by kernel_rfl)) (fun _ _ _ _ _ => pg_name (i := 3) sc_are_between.nd rfl (by first | exact .inl rfl | exact .inr rfl)) (tg_name 3) (fun _ _ _ _ _ => vts_nil) (fun _ _ _ _ _ => ve_call F_is_between hr (by decide) rfl (takes_W0) (va_cons (ve_var (pv 3)) (va_cons (ve_var (pv 1)) (va_cons (ve_var (pv 2)) (va_nil)))))))))), Fn⟩
theorem fv_are_between (T : Txt K w mg) (F_is_between : Fv P w K mg base (cc K B) 2 "is_between" 3 m_is_between) : Fv P w K mg base (cc K B) 3 "are_between" 3 m_are_between := by
  obtain ⟨f, fd, hm, ok, Fn⟩ := fo_are_between (P := P) (base := base) (B := B) T F_is_between
  exact ⟨f, fd, ["values", "least", "most"], rfl, hm, ok, Fn.kp, Fn.binds fun _ _ _ _ _ _ us hl => match us, hl with | [_, _, _], _ => rfl⟩
theorem sc_is_ascending : FnScope ["items", "at"] ["items"] (defScope s_is_ascending) := ⟨rfl, rfl, rfl, by decide +kernel, rfl, by decide +kernel, by decide +kernel⟩
def b_is_ascending : GS := sRet (eOp1 pAll (eLst (lLc [1] (iRng (eOp2 pSub (eOp1 pLen (eVar 0)) (eC (.int 1)))) (gN 1) (gYes) (eOp2 pLtT (eOp2 pIx (eVar 0) (eVar 1)) (eOp2 pIx (eVar 0) (eOp2 pAdd (eVar 1) (eC (.int 1))))))))
def m_is_ascending : GF := fnV 2 noPin b_is_ascending
theorem fo_is_ascending (T : Txt K w mg)  : ∃ f fd, mg "is_ascending" = some (.ref f) ∧ FnOk P w K mg base (L2.CX P w) 1 f fd ["items"] (SpV (cc K B) 1 m_is_ascending) ∧ Fun K "is_ascending" "is_ascending" s_is_ascending f fd := by
  obtain ⟨f, fd, hm, Fn⟩ := T.d_is_ascending
  exact ⟨f, fd, hm, fn_ok (c := cc K B) (N := ["items", "at"]) (pn := noPin) rfl Fn sc_is_ascending rfl (by decide) (fun cdv A outer s H E hr => vss_one (vs_ret (ve_callB (cr_all rfl) (o_all rfl) rfl T.f_all b_all (ve_lst (vl_lc rfl sc_is_ascending.nd (vi_rng rfl T.f_range (ve_op op_sub o_sub (ve_callB call_len2 (o_len rfl) rfl T.f_len b_len (ve_var (pv 0))) (ve_int))) (blkOk_by (own := [("at", 1)]) (by kernel_rfl)) (fun _ _ _ _ _ => pg_name (i := 1) sc_is_ascending.nd rfl (by first | exact .inl rfl | exact .inr rfl)) (tg_name 1) (fun _ _ _ _ _ => vts_nil) (fun _ _ _ _ _ => ve_cmp (op_ltA (hu0 hr)) (o_ltA rfl) rfl (ve_ix (ix_4 (hu1 hr)) (o_ix rfl) (ve_var (pv 0)) (ve_var (pv 1))) (ve_ix (ix_4 (hu1 hr)) (o_ix rfl) (ve_var (pv 0)) (ve_op op_add4 (o_add rfl) (ve_var (pv 1)) (ve_int))))))))), Fn⟩
theorem fv_is_ascending (T : Txt K w mg)  : Fv P w K mg base (cc K B) 1 "is_ascending" 1 m_is_ascending := by
  obtain ⟨f, fd, hm, ok, Fn⟩ := fo_is_ascending (P := P) (base := base) (B := B) T 
  exact ⟨f, fd, ["items"], rfl, hm, ok, Fn.kp, Fn.binds fun _ _ _ _ _ _ us hl => match us, hl with | [_], _ => rfl⟩
theorem sc_is_states : FnScope ["value", "many"] ["value", "many"] (defScope s_is_states) := ⟨rfl, rfl, rfl, by decide +kernel, rfl, by decide +kernel, by decide +kernel⟩
def b_is_states : GS := sRet (eAnd (eOp1 (pIsi "tuple") (eVar 0)) (eAnd (eCall m_are_between (aCons (eVar 0) (aCons (eC (.int 0)) (aCons (eOp2 pSub (eVar 1) (eC (.int 1))) (aNil))))) (eCall m_is_ascending (aCons (eVar 0) (aNil)))))
def m_is_states : GF := fnV 2 noPin b_is_states
theorem fo_is_states (T : Txt K w mg) (F_are_between : Fv P w K mg base (cc K B) 3 "are_between" 3 m_are_between) (F_is_ascending : Fv P w K mg base (cc K B) 1 "is_ascending" 1 m_is_ascending) : ∃ f fd, mg "is_states" = some (.ref f) ∧ FnOk P w K mg base (L2.CX P w) 4 f fd ["value", "many"] (SpV (cc K B) 2 m_is_states) ∧ Fun K "is_states" "is_states" s_is_states f fd := by
  obtain ⟨f, fd, hm, Fn⟩ := T.d_is_states
  exact ⟨f, fd, hm, fn_ok (c := cc K B) (N := ["value", "many"]) (pn := noPin) rfl Fn sc_is_states rfl (by decide) (fun cdv A outer s H E hr => vss_one (vs_ret (ve_and (ve_isi rfl rfl T.f_isinstance b_isinstance (ve_var (pv 0)) rfl T.f_tuple b_tuple) (ve_and (ve_call F_are_between hr (by decide) rfl (takes_of rfl rfl rfl rfl) (va_cons (ve_var (pv 0)) (va_cons (ve_int) (va_cons (ve_op op_sub o_sub (ve_var (pv 1)) (ve_int)) (va_nil))))) (ve_one (ve_call F_is_ascending hr (by decide) rfl (takes_of rfl rfl rfl rfl) (va_cons (ve_var (pv 0)) (va_nil)))))))), Fn⟩
theorem fv_is_states (T : Txt K w mg) (F_are_between : Fv P w K mg base (cc K B) 3 "are_between" 3 m_are_between) (F_is_ascending : Fv P w K mg base (cc K B) 1 "is_ascending" 1 m_is_ascending) : Fv P w K mg base (cc K B) 4 "is_states" 2 m_is_states := by
  obtain ⟨f, fd, hm, ok, Fn⟩ := fo_is_states (P := P) (base := base) (B := B) T F_are_between F_is_ascending
  exact ⟨f, fd, ["value", "many"], rfl, hm, ok, Fn.kp, Fn.binds fun _ _ _ _ _ _ us hl => match us, hl with | [_, _], _ => rfl⟩
theorem sc_is_some_states : FnScope ["value", "many"] ["value", "many"] (defScope s_is_some_states) := ⟨rfl, rfl, rfl, by decide +kernel, rfl, by decide +kernel, by decide +kernel⟩
def b_is_some_states : GS := sRet (eAnd (eCall m_is_states (aCons (eVar 0) (aCons (eVar 1) (aNil)))) (eOp2 pGt (eOp1 pLen (eVar 0)) (eC (.int 0))))
def m_is_some_states : GF := fnV 2 noPin b_is_some_states
theorem fo_is_some_states (T : Txt K w mg) (F_is_states : Fv P w K mg base (cc K B) 4 "is_states" 2 m_is_states) : ∃ f fd, mg "is_some_states" = some (.ref f) ∧ FnOk P w K mg base (L2.CX P w) 5 f fd ["value", "many"] (SpV (cc K B) 2 m_is_some_states) ∧ Fun K "is_some_states" "is_some_states" s_is_some_states f fd := by
  obtain ⟨f, fd, hm, Fn⟩ := T.d_is_some_states
  exact ⟨f, fd, hm, fn_ok (c := cc K B) (N := ["value", "many"]) (pn := noPin) rfl Fn sc_is_some_states rfl (by decide) (fun cdv A outer s H E hr => vss_one (vs_ret (ve_and (ve_call F_is_states hr (by decide) rfl (takes_of rfl rfl rfl rfl) (va_cons (ve_var (pv 0)) (va_cons (ve_var (pv 1)) (va_nil)))) (ve_one (ve_cmp op_gt o_gt rfl (ve_callB call_len2 (o_len rfl) rfl T.f_len b_len (ve_var (pv 0))) (ve_int)))))), Fn⟩
theorem fv_is_some_states (T : Txt K w mg) (F_is_states : Fv P w K mg base (cc K B) 4 "is_states" 2 m_is_states) : Fv P w K mg base (cc K B) 5 "is_some_states" 2 m_is_some_states := by
  obtain ⟨f, fd, hm, ok, Fn⟩ := fo_is_some_states (P := P) (base := base) (B := B) T F_is_states
  exact ⟨f, fd, ["value", "many"], rfl, hm, ok, Fn.kp, Fn.binds fun _ _ _ _ _ _ us hl => match us, hl with | [_, _], _ => rfl⟩
theorem sc_is_looks : FnScope ["looks"] ["looks"] (defScope s_is_looks) := ⟨rfl, rfl, rfl, by decide +kernel, rfl, by decide +kernel, by decide +kernel⟩
def b_is_looks : GS := sRet (eAnd (eOp1 (pIsi "tuple") (eVar 0)) (eAnd (eChain pLe pLe (eC (.int 1)) (eOp1 pLen (eVar 0)) (eC (.int 24))) (eCall m_are_between (aCons (eVar 0) (aCons (eC (.int 0)) (aCons (eC (.int 7)) (aNil)))))))
def m_is_looks : GF := fnV 1 noPin b_is_looks
theorem fo_is_looks (T : Txt K w mg) (F_are_between : Fv P w K mg base (cc K B) 3 "are_between" 3 m_are_between) : ∃ f fd, mg "is_looks" = some (.ref f) ∧ FnOk P w K mg base (L2.CX P w) 4 f fd ["looks"] (SpV (cc K B) 1 m_is_looks) ∧ Fun K "is_looks" "is_looks" s_is_looks f fd := by
  obtain ⟨f, fd, hm, Fn⟩ := T.d_is_looks
  exact ⟨f, fd, hm, fn_ok (c := cc K B) (N := ["looks"]) (pn := noPin) rfl Fn sc_is_looks rfl (by decide) (fun cdv A outer s H E hr => vss_one (vs_ret (ve_and (ve_isi rfl rfl T.f_isinstance b_isinstance (ve_var (pv 0)) rfl T.f_tuple b_tuple) (ve_and (ve_chain op_le o_leB op_le o_le (ve_int) (ve_callB call_len2 (o_len rfl) rfl T.f_len b_len (ve_var (pv 0))) (ve_gint rfl T.i_MOST_PLANT)) (ve_one (ve_call F_are_between hr (by decide) rfl (takes_of rfl rfl rfl rfl) (va_cons (ve_var (pv 0)) (va_cons (ve_int) (va_cons (ve_gint rfl T.i_MOST_LOOK) (va_nil)))))))))), Fn⟩
theorem fv_is_looks (T : Txt K w mg) (F_are_between : Fv P w K mg base (cc K B) 3 "are_between" 3 m_are_between) : Fv P w K mg base (cc K B) 4 "is_looks" 1 m_is_looks := by
  obtain ⟨f, fd, hm, ok, Fn⟩ := fo_is_looks (P := P) (base := base) (B := B) T F_are_between
  exact ⟨f, fd, ["looks"], rfl, hm, ok, Fn.kp, Fn.binds fun _ _ _ _ _ _ us hl => match us, hl with | [_], _ => rfl⟩
theorem sc_is_plant_steps : FnScope ["steps", "states", "acts", "row", "cell"] ["steps", "states", "acts"] (defScope s_is_plant_steps) := ⟨rfl, rfl, rfl, by decide +kernel, rfl, by decide +kernel, by decide +kernel⟩
def b_is_plant_steps : GS := sSeq (sIf (gOr (gNot (gVal (eCall m_is_list_of (aCons (eVar 0) (aCons (eVar 1) (aCons (eVar 1) (aNil))))))) (gNot (gVal (eOp1 pAll (eLst (lLc [3] (iSeq (eVar 0)) (gN 3) (gYes) (eCall m_is_list_of (aCons (eVar 3) (aCons (eVar 2) (aCons (eVar 2) (aNil))))))))))) (sRet (eC (.bl false))) (sNil)) (sRet (eOp1 pAll (eLst (lLc2 [3, 4] [4] (iSeq (eVar 0)) (gN 3) (gYes) (iSeq (eVar 3)) (gN 4) (gYes) (eOr (eOp2 pIs (eVar 4) (eC .non)) (eCall m_is_some_states (aCons (eVar 4) (aCons (eVar 1) (aNil)))))))))
def m_is_plant_steps : GF := fnV 5 noPin b_is_plant_steps
theorem fo_is_plant_steps (T : Txt K w mg) (F_is_list_of : Fv P w K mg base (cc K B) 2 "is_list_of" 3 m_is_list_of) (F_is_some_states : Fv P w K mg base (cc K B) 5 "is_some_states" 2 m_is_some_states) : ∃ f fd, mg "is_plant_steps" = some (.ref f) ∧ FnOk P w K mg base (L2.CX P w) 6 f fd ["steps", "states", "acts"] (SpV (cc K B) 3 m_is_plant_steps) ∧ Fun K "is_plant_steps" "is_plant_steps" s_is_plant_steps f fd := by
  obtain ⟨f, fd, hm, Fn⟩ := T.d_is_plant_steps
  exact ⟨f, fd, hm, fn_ok (c := cc K B) (N := ["steps", "states", "acts", "row", "cell"]) (pn := noPin) rfl Fn sc_is_plant_steps rfl (by decide) (fun cdv A outer s H E hr => vss_cons (vs_if (vt_pw (vw_or (vt_not (vt_val rfl (ve_call F_is_list_of hr (by decide) rfl (takes_of rfl rfl rfl rfl) (va_cons (ve_var (pv 0)) (va_cons (ve_var (pv 1)) (va_cons (ve_var (pv 1)) (va_nil))))))) (vw_or1 (vt_not (vt_val rfl (ve_callB (cr_all rfl) (o_all rfl) rfl T.f_all b_all (ve_lst (vl_lc rfl sc_is_plant_steps.nd (vi_seq rfl (ve_var (pv 0))) (blkOk_by (own := [("row", 3)]) (by kernel_rfl)) (fun _ _ _ _ _ => pg_name (i := 3) sc_is_plant_steps.nd rfl (by first | exact .inl rfl | exact .inr rfl)) (tg_name 3) (fun _ _ _ _ _ => vts_nil) (fun _ _ _ _ _ => ve_call F_is_list_of hr (by decide) rfl (takes_W0) (va_cons (ve_var (pv 3)) (va_cons (ve_var (pv 2)) (va_cons (ve_var (pv 2)) (va_nil))))))))))))) (vss_one (vs_ret (ve_bl))) (vss_nil)) (vss_one (vs_ret (ve_callB (cr_all rfl) (o_all rfl) rfl T.f_all b_all (ve_lst (vl_lc2 rfl sc_is_plant_steps.nd (vi_seq rfl (ve_var (pv 0))) (blkOk_by (own := [("row", 3), ("cell", 4)]) (by kernel_rfl)) (by decide) (fun _ _ _ _ _ => pg_name (i := 3) sc_is_plant_steps.nd rfl (by first | exact .inl rfl | exact .inr rfl)) ((tg_name 3).more (by decide)) (fun _ _ _ _ _ => vts_nil) (fun _ _ _ _ _ => vi_seq rfl (ve_var (pv 3))) (fun _ _ _ _ _ => pg_name (i := 4) sc_is_plant_steps.nd rfl (by first | exact .inl rfl | exact .inr rfl)) (tg_name 4) (fun _ _ _ _ _ => vts_nil) (fun _ _ _ _ _ => ve_or (ve_cmp op_is2 o_is rfl (ve_var (pv 4)) (ve_non)) (ve_one (ve_call F_is_some_states hr (by decide) rfl (takes_W0) (va_cons (ve_var (pv 4)) (va_cons (ve_var (pv 1)) (va_nil)))))))))))), Fn⟩
theorem fv_is_plant_steps (T : Txt K w mg) (F_is_list_of : Fv P w K mg base (cc K B) 2 "is_list_of" 3 m_is_list_of) (F_is_some_states : Fv P w K mg base (cc K B) 5 "is_some_states" 2 m_is_some_states) : Fv P w K mg base (cc K B) 6 "is_plant_steps" 3 m_is_plant_steps := by
  obtain ⟨f, fd, hm, ok, Fn⟩ := fo_is_plant_steps (P := P) (base := base) (B := B) T F_is_list_of F_is_some_states
  exact ⟨f, fd, ["steps", "states", "acts"], rfl, hm, ok, Fn.kp, Fn.binds fun _ _ _ _ _ _ us hl => match us, hl with | [_, _, _], _ => rfl⟩
theorem sc_Plant_init : FnScope ["self", "acts", "looks", "steps", "row"] ["self", "acts", "looks", "steps"] (defScope si_Plant) := ⟨rfl, rfl, rfl, by decide +kernel, rfl, by decide +kernel, by decide +kernel⟩
def mi_Plant : GIn := iCons (sIf (gNot (gVal (eCall m_is_between (aCons (eVar 1) (aCons (eC (.int 1)) (aCons (eC (.int 6)) (aNil))))))) (sRaise 1 "given" (eVar 1)) (sNil)) (iCons (sIf (gNot (gVal (eCall m_is_looks (aCons (eVar 2) (aNil))))) (sRaise 3 "given" (eVar 2)) (sNil)) (iCons (sIf (gNot (gVal (eCall m_is_plant_steps (aCons (eVar 3) (aCons (eOp1 pLen (eVar 2)) (aCons (eVar 1) (aNil))))))) (sRaise 5 "given" (eVar 3)) (sNil)) (iEnd 7 [("acts", false, eVar 1), ("looks", false, eVar 2), ("steps", false, eOp1 pTuple (eLst (lLc [4] (iSeq (eVar 3)) (gN 4) (gYes) (eOp1 pTuple (eVar 4)))))])))
def m_Plant : GN := iniV 5 mi_Plant
theorem nv_Plant (T : Txt K w mg) (F_is_between : Fv P w K mg base (cc K B) 2 "is_between" 3 m_is_between) (X_InvalidActs : Ec P w K mg base (cc K B) 1 "InvalidActs" 1 "given") (F_is_looks : Fv P w K mg base (cc K B) 4 "is_looks" 1 m_is_looks) (X_InvalidLooks : Ec P w K mg base (cc K B) 1 "InvalidLooks" 3 "given") (F_is_plant_steps : Fv P w K mg base (cc K B) 6 "is_plant_steps" 3 m_is_plant_steps) (X_InvalidSteps : Ec P w K mg base (cc K B) 1 "InvalidSteps" 5 "given") : Nv P w K mg base (cc K B) 7 "Plant" 7 3 m_Plant := by
  obtain ⟨fd, Fn⟩ := T.ni_Plant
  exact ⟨_, fd, ["self", "acts", "looks", "steps"], T.c_Plant.M, T.g_Plant, init_fn (c := cc K B) (N := ["self", "acts", "looks", "steps", "row"]) rfl Fn sc_Plant_init rfl (by decide) (fun cdv A outer s H E hr => vi_cons (vs_if (vt_not (vt_val rfl (ve_call F_is_between hr (by decide) rfl (takes_of rfl rfl rfl rfl) (va_cons (ve_var (pv 1)) (va_cons (ve_int) (va_cons (ve_gint rfl T.i_MOST_HANDS) (va_nil))))))) (vss_one (vs_raise rfl X_InvalidActs hr (by decide) rfl (takes_of rfl rfl rfl rfl) rfl (ve_var (pv 1)))) (vss_nil)) (vi_cons (vs_if (vt_not (vt_val rfl (ve_call F_is_looks hr (by decide) rfl (takes_of rfl rfl rfl rfl) (va_cons (ve_var (pv 2)) (va_nil))))) (vss_one (vs_raise rfl X_InvalidLooks hr (by decide) rfl (takes_of rfl rfl rfl rfl) rfl (ve_var (pv 2)))) (vss_nil)) (vi_cons (vs_if (vt_not (vt_val rfl (ve_call F_is_plant_steps hr (by decide) rfl (takes_of rfl rfl rfl rfl) (va_cons (ve_var (pv 3)) (va_cons (ve_callB call_len2 (o_len rfl) rfl T.f_len b_len (ve_var (pv 2))) (va_cons (ve_var (pv 1)) (va_nil))))))) (vss_one (vs_raise rfl X_InvalidSteps hr (by decide) rfl (takes_of rfl rfl rfl rfl) rfl (ve_var (pv 3)))) (vss_nil)) (vi_end (vf_put rfl T.c_Plant (by decide) (pv 0) (ve_var (pv 1)) (vf_put rfl T.c_Plant (by decide) (pv 0) (ve_var (pv 2)) (vf_put rfl T.c_Plant (by decide) (pv 0) (ve_callTy call_tuple2 (o_tuple rfl) rfl T.f_tuple b_tuple (ve_lst (vl_lc rfl sc_Plant_init.nd (vi_seq rfl (ve_var (pv 3))) (blkOk_by (own := [("row", 4)]) (by kernel_rfl)) (fun _ _ _ _ _ => pg_name (i := 4) sc_Plant_init.nd rfl (by first | exact .inl rfl | exact .inr rfl)) (tg_name 4) (fun _ _ _ _ _ => vts_nil) (fun _ _ _ _ _ => ve_callTy call_tuple2 (o_tuple rfl) rfl T.f_tuple b_tuple (ve_var (pv 4)))))) (vf_nil)))))))), Fn.binds fun _ _ _ _ _ _ us hl => match us, hl with | [_, _, _, _], _ => rfl⟩
theorem sc_Plant_eqf : FnScope ["self", "other"] ["self", "other"] (defScope se_Plant) := ⟨rfl, rfl, rfl, by decide +kernel, rfl, by decide +kernel, by decide +kernel⟩
def b_Plant_eq : GS := sSeq (sIf (gNot (gVal (eOp1 (pIsC 7) (eVar 1)))) (sRet (eC (.bl false))) (sNil)) (sRet (eAnd (eOp2 pEq (eFld flds_Plant "acts" 7 (eVar 0)) (eFld flds_Plant "acts" 7 (eVar 1))) (eAnd (eOp2 pEq (eFld flds_Plant "looks" 7 (eVar 0)) (eFld flds_Plant "looks" 7 (eVar 1))) (eOp2 pEq (eFld flds_Plant "steps" 7 (eVar 0)) (eFld flds_Plant "steps" 7 (eVar 1))))))
def m_Plant_eq : GF := fnV 2 noPin b_Plant_eq
theorem qv_Plant (T : Txt K w mg)  : EqT P w K mg base (cc K B) 1 7 m_Plant_eq := by
  obtain ⟨fd, Fn⟩ := T.ne_Plant
  exact ⟨⟨_, fd, ["self", "other"], T.q_Plant.at_, T.q_Plant.fn, fn_ok (c := cc K B) (N := ["self", "other"]) (pn := noPin) rfl Fn sc_Plant_eqf rfl (by decide) (fun cdv A outer s H E hr => vss_cons (vs_if (vt_not (vt_val rfl (ve_isC rfl rfl T.f_isinstance b_isinstance (ve_var (pv 1)) rfl T.g_Plant T.c_Plant T.k_Plant))) (vss_one (vs_ret (ve_bl))) (vss_nil)) (vss_one (vs_ret (ve_and (ve_cmp (op_eq2 (hu64 hr)) (o_eq rfl) rfl (ve_fld rfl T.c_Plant (ve_var (pv 0))) (ve_fld rfl T.c_Plant (ve_var (pv 1)))) (ve_and (ve_cmp (op_eq2 (hu64 hr)) (o_eq rfl) rfl (ve_fld rfl T.c_Plant (ve_var (pv 0))) (ve_fld rfl T.c_Plant (ve_var (pv 1)))) (ve_one (ve_cmp (op_eq2 (hu64 hr)) (o_eq rfl) rfl (ve_fld rfl T.c_Plant (ve_var (pv 0))) (ve_fld rfl T.c_Plant (ve_var (pv 1)))))))))), Fn.binds fun _ _ _ _ _ _ us hl => match us, hl with | [_, _], _ => rfl⟩, T.q_Plant.nf⟩
theorem sc_is_offer : FnScope ["plant", "value"] ["plant", "value"] (defScope s_is_offer) := ⟨rfl, rfl, rfl, by decide +kernel, rfl, by decide +kernel, by decide +kernel⟩
def b_is_offer : GS := sSeq (sIf (gOr (gNot (gVal (eCall m_is_tuple_of (aCons (eVar 1) (aCons (eC (.int 2)) (aNil)))))) (gNot (gVal (eCall m_is_between (aCons (eOp2 pIx (eVar 1) (eC (.int 0))) (aCons (eC (.int 0)) (aCons (eC (.int 20)) (aNil)))))))) (sRet (eC (.bl false))) (sNil)) (sRet (eAnd (eCall m_is_tuple_of (aCons (eOp2 pIx (eVar 1) (eC (.int 1))) (aCons (eOp1 pLen (eFld flds_Plant "looks" 7 (eVar 0))) (aNil)))) (eCall m_are_between (aCons (eOp2 pIx (eVar 1) (eC (.int 1))) (aCons (eC (.int 0)) (aCons (eC (.int 3)) (aNil)))))))
def m_is_offer : GF := fnV 2 noPin b_is_offer
theorem fo_is_offer (T : Txt K w mg) (F_is_tuple_of : Fv P w K mg base (cc K B) 1 "is_tuple_of" 2 m_is_tuple_of) (F_is_between : Fv P w K mg base (cc K B) 2 "is_between" 3 m_is_between) (F_are_between : Fv P w K mg base (cc K B) 3 "are_between" 3 m_are_between) : ∃ f fd, mg "is_offer" = some (.ref f) ∧ FnOk P w K mg base (L2.CX P w) 4 f fd ["plant", "value"] (SpV (cc K B) 2 m_is_offer) ∧ Fun K "is_offer" "is_offer" s_is_offer f fd := by
  obtain ⟨f, fd, hm, Fn⟩ := T.d_is_offer
  exact ⟨f, fd, hm, fn_ok (c := cc K B) (N := ["plant", "value"]) (pn := noPin) rfl Fn sc_is_offer rfl (by decide) (fun cdv A outer s H E hr => vss_cons (vs_if (vt_pw (vw_or (vt_not (vt_val rfl (ve_call F_is_tuple_of hr (by decide) rfl (takes_of rfl rfl rfl rfl) (va_cons (ve_var (pv 1)) (va_cons (ve_int) (va_nil)))))) (vw_or1 (vt_not (vt_val rfl (ve_call F_is_between hr (by decide) rfl (takes_of rfl rfl rfl rfl) (va_cons (ve_ix (ix_4 (hu1 hr)) (o_ix rfl) (ve_var (pv 1)) (ve_int)) (va_cons (ve_int) (va_cons (ve_gint rfl T.i_MOST_PRICE) (va_nil)))))))))) (vss_one (vs_ret (ve_bl))) (vss_nil)) (vss_one (vs_ret (ve_and (ve_call F_is_tuple_of hr (by decide) rfl (takes_of rfl rfl rfl rfl) (va_cons (ve_ix (ix_4 (hu1 hr)) (o_ix rfl) (ve_var (pv 1)) (ve_int)) (va_cons (ve_callB call_len2 (o_len rfl) rfl T.f_len b_len (ve_fld rfl T.c_Plant (ve_var (pv 0)))) (va_nil)))) (ve_one (ve_call F_are_between hr (by decide) rfl (takes_of rfl rfl rfl rfl) (va_cons (ve_ix (ix_4 (hu1 hr)) (o_ix rfl) (ve_var (pv 1)) (ve_int)) (va_cons (ve_int) (va_cons (ve_gint rfl T.i_MOST_SHOWN) (va_nil)))))))))), Fn⟩
theorem fv_is_offer (T : Txt K w mg) (F_is_tuple_of : Fv P w K mg base (cc K B) 1 "is_tuple_of" 2 m_is_tuple_of) (F_is_between : Fv P w K mg base (cc K B) 2 "is_between" 3 m_is_between) (F_are_between : Fv P w K mg base (cc K B) 3 "are_between" 3 m_are_between) : Fv P w K mg base (cc K B) 4 "is_offer" 2 m_is_offer := by
  obtain ⟨f, fd, hm, ok, Fn⟩ := fo_is_offer (P := P) (base := base) (B := B) T F_is_tuple_of F_is_between F_are_between
  exact ⟨f, fd, ["plant", "value"], rfl, hm, ok, Fn.kp, Fn.binds fun _ _ _ _ _ _ us hl => match us, hl with | [_, _], _ => rfl⟩
theorem sc_check_offers : FnScope ["plant", "offers", "one"] ["plant", "offers"] (defScope s_check_offers) := ⟨rfl, rfl, rfl, by decide +kernel, rfl, by decide +kernel, by decide +kernel⟩
def b_check_offers : GS := sIf (gOr (gNot (gVal (eCall m_is_list_of (aCons (eVar 1) (aCons (eC (.int 1)) (aCons (eC (.int 5)) (aNil))))))) (gNot (gVal (eOp1 pAll (eLst (lLc [2] (iSeq (eVar 1)) (gN 2) (gYes) (eCall m_is_offer (aCons (eVar 0) (aCons (eVar 2) (aNil)))))))))) (sRaise 4 "given" (eVar 1)) (sNil)
def m_check_offers : GF := fnV 3 noPin b_check_offers
theorem fo_check_offers (T : Txt K w mg) (F_is_list_of : Fv P w K mg base (cc K B) 2 "is_list_of" 3 m_is_list_of) (F_is_offer : Fv P w K mg base (cc K B) 4 "is_offer" 2 m_is_offer) (X_InvalidOffers : Ec P w K mg base (cc K B) 1 "InvalidOffers" 4 "given") : ∃ f fd, mg "check_offers" = some (.ref f) ∧ FnOk P w K mg base (L2.CX P w) 5 f fd ["plant", "offers"] (SpV (cc K B) 2 m_check_offers) ∧ Fun K "check_offers" "check_offers" s_check_offers f fd := by
  obtain ⟨f, fd, hm, Fn⟩ := T.d_check_offers
  exact ⟨f, fd, hm, fn_ok (c := cc K B) (N := ["plant", "offers", "one"]) (pn := noPin) rfl Fn sc_check_offers rfl (by decide) (fun cdv A outer s H E hr => vss_one (vs_if (vt_pw (vw_or (vt_not (vt_val rfl (ve_call F_is_list_of hr (by decide) rfl (takes_of rfl rfl rfl rfl) (va_cons (ve_var (pv 1)) (va_cons (ve_int) (va_cons (ve_gint rfl T.i_MOST_OFFERS) (va_nil))))))) (vw_or1 (vt_not (vt_val rfl (ve_callB (cr_all rfl) (o_all rfl) rfl T.f_all b_all (ve_lst (vl_lc rfl sc_check_offers.nd (vi_seq rfl (ve_var (pv 1))) (blkOk_by (own := [("one", 2)]) (by kernel_rfl)) (fun _ _ _ _ _ => pg_name (i := 2) sc_check_offers.nd rfl (by first | exact .inl rfl | exact .inr rfl)) (tg_name 2) (fun _ _ _ _ _ => vts_nil) (fun _ _ _ _ _ => ve_call F_is_offer hr (by decide) rfl (takes_W0) (va_cons (ve_var (pv 0)) (va_cons (ve_var (pv 2)) (va_nil)))))))))))) (vss_one (vs_raise rfl X_InvalidOffers hr (by decide) rfl (takes_of rfl rfl rfl rfl) rfl (ve_var (pv 1)))) (vss_nil))), Fn⟩
theorem fv_check_offers (T : Txt K w mg) (F_is_list_of : Fv P w K mg base (cc K B) 2 "is_list_of" 3 m_is_list_of) (F_is_offer : Fv P w K mg base (cc K B) 4 "is_offer" 2 m_is_offer) (X_InvalidOffers : Ec P w K mg base (cc K B) 1 "InvalidOffers" 4 "given") : Fv P w K mg base (cc K B) 5 "check_offers" 2 m_check_offers := by
  obtain ⟨f, fd, hm, ok, Fn⟩ := fo_check_offers (P := P) (base := base) (B := B) T F_is_list_of F_is_offer X_InvalidOffers
  exact ⟨f, fd, ["plant", "offers"], rfl, hm, ok, Fn.kp, Fn.binds fun _ _ _ _ _ _ us hl => match us, hl with | [_, _], _ => rfl⟩
theorem sc_bought : FnScope ["plant", "offers", "chosen", "shown", "kinds", "state", "at", "one"] ["plant", "offers", "chosen"] (defScope s_bought) := ⟨rfl, rfl, rfl, by decide +kernel, rfl, by decide +kernel, by decide +kernel⟩
def b_bought : GS := sSeq (sSet 3 (eLst (lLc [5] (iRng (eOp1 pLen (eFld flds_Plant "looks" 7 (eVar 0)))) (gN 5) (gYes) (eOp1 pTuple (eLst (lLc [6] (iSeq (eVar 2)) (gN 6) (gYes) (eOp2 pIx (eOp2 pIx (eOp2 pIx (eVar 1) (eVar 6)) (eC (.int 1))) (eVar 5)))))))) (sSeq (sSet 4 (eLst (lOp1 lSS (eVar 3)))) (sSeq (sIf (gBl (eOp2 pGt (eOp1 pLen (eVar 4)) (eOp2 pAdd (eC (.int 7)) (eC (.int 1))))) (sRaise 6 "count" (eOp1 pLen (eVar 4))) (sNil)) (sRet (eNew 7 m_Plant (aCons (eFld flds_Plant "acts" 7 (eVar 0)) (aCons (eOp1 pTuple (eLst (lLc [7] (iSeq (eVar 3)) (gN 7) (gYes) (eLstM pIndex (eVar 4) (eVar 7))))) (aCons (eFld flds_Plant "steps" 7 (eVar 0)) (aNil))))))))
def m_bought : GF := fnV 8 noPin b_bought
theorem fo_bought (T : Txt K w mg) (X_TooMany : Ec P w K mg base (cc K B) 1 "TooMany" 6 "count") (N_Plant : Nv P w K mg base (cc K B) 7 "Plant" 7 3 m_Plant) : ∃ f fd, mg "bought" = some (.ref f) ∧ FnOk P w K mg base (L2.CX P w) 9 f fd ["plant", "offers", "chosen"] (SpV (cc K B) 3 m_bought) ∧ Fun K "bought" "bought" s_bought f fd := by
  obtain ⟨f, fd, hm, Fn⟩ := T.d_bought
  exact ⟨f, fd, hm, fn_ok (c := cc K B) (N := ["plant", "offers", "chosen", "shown", "kinds", "state", "at", "one"]) (pn := noPin) rfl Fn sc_bought rfl (by decide) (fun cdv A outer s H E hr => vss_cons (vs_setLc (i := 3) rfl sc_bought.nd rfl rfl rfl (sw_true rfl rfl rfl (by decide +kernel)) (vi_rng rfl T.f_range (ve_callB call_len2 (o_len rfl) rfl T.f_len b_len (ve_fld rfl T.c_Plant (ve_var (pv 0))))) (blkOk_by (own := [("state", 5)]) (by kernel_rfl)) (fun _ _ _ _ _ => pg_name (i := 5) sc_bought.nd rfl (by first | exact .inl rfl | exact .inr rfl)) (tg_name 5) (fun _ _ _ _ _ => vts_nil) (fun _ _ _ _ _ => ve_callTy call_tuple2 (o_tuple rfl) rfl T.f_tuple b_tuple (ve_lst (vl_lc rfl sc_bought.nd (vi_seq rfl (ve_var (pv 2))) (blkOk_by (own := [("at", 6)]) (by kernel_rfl)) (fun _ _ _ _ _ => pg_name (i := 6) sc_bought.nd rfl (by first | exact .inl rfl | exact .inr rfl)) (tg_name 6) (fun _ _ _ _ _ => vts_nil) (fun _ _ _ _ _ => ve_ix (ix_4 (hu1 hr)) (o_ix rfl) (ve_ix (ix_4 (hu1 hr)) (o_ix rfl) (ve_ix (ix_4 (hu1 hr)) (o_ix rfl) (ve_var (pv 1)) (ve_var (pv 6))) (ve_int)) (ve_var (pv 5))))))) (vss_cons (vs_set (i := 4) sc_bought.nd rfl (by first | exact .inl rfl | exact .inr rfl) rfl (ve_lst (vl_sortSet rfl rfl (hu64 hr) rfl T.f_sorted rfl T.f_set (ve_var (pv 3))))) (vss_cons (vs_if (vt_cmp op_gt o_gt rfl (ve_callB call_len2 (o_len rfl) rfl T.f_len b_len (ve_var (pv 4))) (ve_op op_add4 (o_add rfl) (ve_gint rfl T.i_MOST_LOOK) (ve_int))) (vss_one (vs_raise rfl X_TooMany hr (by decide) rfl (takes_of rfl rfl rfl rfl) rfl (ve_callB call_len2 (o_len rfl) rfl T.f_len b_len (ve_var (pv 4))))) (vss_nil)) (vss_one (vs_ret (ve_new N_Plant hr (by decide) rfl (takes_of rfl rfl rfl rfl) (va_cons (ve_fld rfl T.c_Plant (ve_var (pv 0))) (va_cons (ve_callTy call_tuple2 (o_tuple rfl) rfl T.f_tuple b_tuple (ve_lst (vl_lc rfl sc_bought.nd (vi_seq rfl (ve_var (pv 3))) (blkOk_by (own := [("one", 7)]) (by kernel_rfl)) (fun _ _ _ _ _ => pg_name (i := 7) sc_bought.nd rfl (by first | exact .inl rfl | exact .inr rfl)) (tg_name 7) (fun _ _ _ _ _ => vts_nil) (fun _ _ _ _ _ => ve_index rfl (hu65 hr) (ve_var (pv 4)) (ve_var (pv 7)))))) (va_cons (ve_fld rfl T.c_Plant (ve_var (pv 0))) (va_nil)))))))))), Fn⟩
theorem fv_bought (T : Txt K w mg) (X_TooMany : Ec P w K mg base (cc K B) 1 "TooMany" 6 "count") (N_Plant : Nv P w K mg base (cc K B) 7 "Plant" 7 3 m_Plant) : Fv P w K mg base (cc K B) 9 "bought" 3 m_bought := by
  obtain ⟨f, fd, hm, ok, Fn⟩ := fo_bought (P := P) (base := base) (B := B) T X_TooMany N_Plant
  exact ⟨f, fd, ["plant", "offers", "chosen"], rfl, hm, ok, Fn.kp, Fn.binds fun _ _ _ _ _ _ us hl => match us, hl with | [_, _, _], _ => rfl⟩
theorem sc_bought_plant : FnScope ["plant", "offers", "chosen"] ["plant", "offers", "chosen"] (defScope s_bought_plant) := ⟨rfl, rfl, rfl, by decide +kernel, rfl, by decide +kernel, by decide +kernel⟩
def b_bought_plant : GS := sSeq (sDrop (eCall m_check_offers (aCons (eVar 0) (aCons (eVar 1) (aNil))))) (sSeq (sIf (gNot (gVal (eCall m_is_states (aCons (eVar 2) (aCons (eOp1 pLen (eVar 1)) (aNil)))))) (sRaise 2 "given" (eVar 2)) (sNil)) (sRet (eCall m_bought (aCons (eVar 0) (aCons (eVar 1) (aCons (eVar 2) (aNil)))))))
def m_bought_plant : GF := fnV 3 noPin b_bought_plant
theorem fo_bought_plant (T : Txt K w mg) (F_check_offers : Fv P w K mg base (cc K B) 5 "check_offers" 2 m_check_offers) (F_is_states : Fv P w K mg base (cc K B) 4 "is_states" 2 m_is_states) (X_InvalidChosen : Ec P w K mg base (cc K B) 1 "InvalidChosen" 2 "given") (F_bought : Fv P w K mg base (cc K B) 9 "bought" 3 m_bought) : ∃ f fd, mg "bought_plant" = some (.ref f) ∧ FnOk P w K mg base (L2.CX P w) 10 f fd ["plant", "offers", "chosen"] (SpV (cc K B) 3 m_bought_plant) ∧ Fun K "bought_plant" "bought_plant" s_bought_plant f fd := by
  obtain ⟨f, fd, hm, Fn⟩ := T.d_bought_plant
  exact ⟨f, fd, hm, fn_ok (c := cc K B) (N := ["plant", "offers", "chosen"]) (pn := noPin) rfl Fn sc_bought_plant rfl (by decide) (fun cdv A outer s H E hr => vss_cons (vs_expr (ve_call F_check_offers hr (by decide) rfl (takes_of rfl rfl rfl rfl) (va_cons (ve_var (pv 0)) (va_cons (ve_var (pv 1)) (va_nil))))) (vss_cons (vs_if (vt_not (vt_val rfl (ve_call F_is_states hr (by decide) rfl (takes_of rfl rfl rfl rfl) (va_cons (ve_var (pv 2)) (va_cons (ve_callB call_len2 (o_len rfl) rfl T.f_len b_len (ve_var (pv 1))) (va_nil)))))) (vss_one (vs_raise rfl X_InvalidChosen hr (by decide) rfl (takes_of rfl rfl rfl rfl) rfl (ve_var (pv 2)))) (vss_nil)) (vss_one (vs_ret (ve_call F_bought hr (by decide) rfl (takes_of rfl rfl rfl rfl) (va_cons (ve_var (pv 0)) (va_cons (ve_var (pv 1)) (va_cons (ve_var (pv 2)) (va_nil))))))))), Fn⟩
theorem fv_bought_plant (T : Txt K w mg) (F_check_offers : Fv P w K mg base (cc K B) 5 "check_offers" 2 m_check_offers) (F_is_states : Fv P w K mg base (cc K B) 4 "is_states" 2 m_is_states) (X_InvalidChosen : Ec P w K mg base (cc K B) 1 "InvalidChosen" 2 "given") (F_bought : Fv P w K mg base (cc K B) 9 "bought" 3 m_bought) : Fv P w K mg base (cc K B) 10 "bought_plant" 3 m_bought_plant := by
  obtain ⟨f, fd, hm, ok, Fn⟩ := fo_bought_plant (P := P) (base := base) (B := B) T F_check_offers F_is_states X_InvalidChosen F_bought
  exact ⟨f, fd, ["plant", "offers", "chosen"], rfl, hm, ok, Fn.kp, Fn.binds fun _ _ _ _ _ _ us hl => match us, hl with | [_, _, _], _ => rfl⟩
theorem kv_bought_plant_chosen_offers_plant (T : Txt K w mg) (F_check_offers : Fv P w K mg base (cc K B) 5 "check_offers" 2 m_check_offers) (F_is_states : Fv P w K mg base (cc K B) 4 "is_states" 2 m_is_states) (X_InvalidChosen : Ec P w K mg base (cc K B) 1 "InvalidChosen" 2 "given") (F_bought : Fv P w K mg base (cc K B) 9 "bought" 3 m_bought) : FvK P w K mg base (cc K B) 10 "bought_plant" 3 m_bought_plant ["chosen", "offers", "plant"] [2, 1, 0] := by
  obtain ⟨f, fd, hm, ok, Fn⟩ := fo_bought_plant (P := P) (base := base) (B := B) T F_check_offers F_is_states X_InvalidChosen F_bought
  refine ⟨f, fd, ["plant", "offers", "chosen"], rfl, hm, ok, Fn.kp, fun s us hK hl => match us, hl with | [u0, u1, u2], _ => ?_⟩
  obtain ⟨oc, od, kV, doc, pm, an, cdv, ct, osl, rfl, lk, hcd⟩ := Fn.ex
  exact BindsTo.of_eq (by first | rfl | with_unfolding_all rfl)
theorem sc__law_cell : FnScope ["script", "k"] ["script", "k"] (defScope s__law_cell) := ⟨rfl, rfl, rfl, by decide +kernel, rfl, by decide +kernel, by decide +kernel⟩
def b__law_cell : GS := sRet (eIf (gBl (eOp2 pLtT (eVar 1) (eOp1 pLen (eVar 0)))) (eOp2 pIx (eVar 0) (eVar 1)) (eOp2 pAdd (eOp2 pMul (eC (.int 7019)) (eVar 1)) (eOp2 pMod (eOp1 pInt (eOp1 pSum (eSl pSl (eVar 0) (oNone) (oSome (eC (.int 1)))))) (eC (.int 1000033)))))
def m__law_cell : GF := fnV 2 noPin b__law_cell
theorem fo__law_cell (T : Txt K w mg)  : ∃ f fd, mg "_law_cell" = some (.ref f) ∧ FnOk P w K mg base (L2.CX P w) 1 f fd ["script", "k"] (SpV (cc K B) 2 m__law_cell) ∧ Fun K "_law_cell" "_law_cell" s__law_cell f fd := by
  obtain ⟨f, fd, hm, Fn⟩ := T.d__law_cell
  exact ⟨f, fd, hm, fn_ok (c := cc K B) (N := ["script", "k"]) (pn := noPin) rfl Fn sc__law_cell rfl (by decide) (fun cdv A outer s H E hr => vss_one (vs_ret (ve_if (vt_cmp (op_ltA (hu0 hr)) (o_ltA rfl) rfl (ve_var (pv 1)) (ve_callB call_len2 (o_len rfl) rfl T.f_len b_len (ve_var (pv 0)))) (ve_ix (ix_4 (hu1 hr)) (o_ix rfl) (ve_var (pv 0)) (ve_var (pv 1))) (ve_op op_add4 (o_add rfl) (ve_op op_mul2 o_mul (ve_int) (ve_var (pv 1))) (ve_op op_mod o_mod (ve_callTy call_intS o_int rfl T.f_int b_int (ve_callB (cr_sum rfl) (o_sum rfl) rfl T.f_sum b_sum (ve_slice sl_3 (o_sl rfl) (ve_var (pv 0)) (vo_none) (vo_some (ve_int))))) (ve_int)))))), Fn⟩
theorem fv__law_cell (T : Txt K w mg)  : Fv P w K mg base (cc K B) 1 "_law_cell" 2 m__law_cell := by
  obtain ⟨f, fd, hm, ok, Fn⟩ := fo__law_cell (P := P) (base := base) (B := B) T 
  exact ⟨f, fd, ["script", "k"], rfl, hm, ok, Fn.kp, Fn.binds fun _ _ _ _ _ _ us hl => match us, hl with | [_, _], _ => rfl⟩
theorem sc__law_box : FnScope ["great"] ["great"] (defScope s__law_box) := ⟨rfl, rfl, rfl, by decide +kernel, rfl, by decide +kernel, by decide +kernel⟩
def b__law_box : GL := lDisp (aCons (eOp1 pAbs (eVar 0)) (aCons (eOp2 pGe (eOp1 pAbs (eVar 0)) (eOp2 pPow (eC (.int 10)) (eC (.int 18)))) (aCons (eOp2 pMod (eOp1 pInt (eOp1 pAbs (eVar 0))) (eC (.int 2147483629))) (aCons (eC (.int 0)) (aNil)))))
def m__law_box : GFL := fnL 1 b__law_box
theorem fv__law_box (T : Txt K w mg) : FvL P w K mg base (cc K B) 1 "_law_box" 1 m__law_box := by
  obtain ⟨f, fd, hm, Fn⟩ := T.d__law_box
  exact ⟨f, fd, ["great"], rfl, hm, fnL_ok (N := ["great"]) Fn sc__law_box rfl (by decide) rfl (fun cdv A outer s H E hr => vl_disp (va_cons (ve_callB call_abs o_abs rfl T.f_abs b_abs (ve_var (pv 0))) (va_cons (ve_cmp op_ge o_ge rfl (ve_callB call_abs o_abs rfl T.f_abs b_abs (ve_var (pv 0))) (ve_op op_pow o_pow (ve_int) (ve_int))) (va_cons (ve_op op_mod o_mod (ve_callTy call_intS o_int rfl T.f_int b_int (ve_callB call_abs o_abs rfl T.f_abs b_abs (ve_var (pv 0)))) (ve_int)) (va_cons (ve_int) (va_nil)))))), Fn.kp, Fn.binds fun _ _ _ _ _ _ us hl => match us, hl with | [_], _ => rfl⟩
theorem sc__law_take : FnScope ["box", "many", "digit", "mixed"] ["box", "many"] (defScope s__law_take) := ⟨rfl, rfl, rfl, by decide +kernel, rfl, by decide +kernel, by decide +kernel⟩
def b__law_take : GS := sSeq (sIf (gAnd (gVal (eIxO 0 (eC (.int 1)))) (gBl (eOp2 pGt (eIxO 0 (eC (.int 0))) (eC (.int 0))))) (sSeq (sSet 2 (eOp2 pMod (eOp1 pInt (eIxO 0 (eC (.int 0)))) (eVar 1))) (sSeq (sPutO 0 (eC (.int 0)) (eOp2 pFdiv (eIxO 0 (eC (.int 0))) (eVar 1))) (sRet (eVar 2)))) (sNil)) (sSeq (sPutO 0 (eC (.int 3)) (eOp2 pAdd (eIxO 0 (eC (.int 3))) (eC (.int 1)))) (sSeq (sSet 3 (eOp2 pMod (eOp1 pInt (eOp2 pPow (eOp2 pAdd (eOp2 pAdd (eIxO 0 (eC (.int 2))) (eOp2 pMul (eC (.int 15486181)) (eIxO 0 (eC (.int 3))))) (eC (.int 179424949))) (eC (.int 5)))) (eC (.int 2147483647)))) (sRet (eOp2 pMod (eOp1 pInt (eOp2 pFdiv (eOp2 pMod (eOp1 pInt (eOp2 pPow (eOp2 pAdd (eOp2 pMul (eVar 3) (eC (.int 48271))) (eOp2 pMul (eC (.int 104911)) (eIxO 0 (eC (.int 3))))) (eC (.int 3)))) (eC (.int 2147483587))) (eC (.int 64)))) (eVar 1)))))
def m__law_take : GF := fnV 4 pin0 b__law_take
theorem fo__law_take (T : Txt K w mg)  : ∃ f fd, mg "_law_take" = some (.ref f) ∧ FnOk P w K mg base (L2.CX P w) 1 f fd ["box", "many"] (SpV (cc K B) 2 m__law_take) ∧ Fun K "_law_take" "_law_take" s__law_take f fd := by
  obtain ⟨f, fd, hm, Fn⟩ := T.d__law_take
  exact ⟨f, fd, hm, fn_ok (c := cc K B) (N := ["box", "many", "digit", "mixed"]) (pn := pin0) rfl Fn sc__law_take rfl (by decide) (fun cdv A outer s H E hr => vss_cons (vs_if (vt_pw (vw_and (vt_val rfl (ve_ixO rfl (pv 0) (ve_int))) (vw_and1 (vt_cmp op_gt o_gt rfl (ve_ixO rfl (pv 0) (ve_int)) (ve_int))))) (vss_cons (vs_set (i := 2) sc__law_take.nd rfl (by first | exact .inl rfl | exact .inr rfl) rfl (ve_op op_mod o_mod (ve_callTy call_intS o_int rfl T.f_int b_int (ve_ixO rfl (pv 0) (ve_int))) (ve_var (pv 1)))) (vss_cons (vs_putO (pv 0) (ve_int) (ve_op op_fdiv o_fdiv (ve_ixO rfl (pv 0) (ve_int)) (ve_var (pv 1)))) (vss_one (vs_ret (ve_var (pv 2)))))) (vss_nil)) (vss_cons (vs_putO (pv 0) (ve_int) (ve_op op_add4 (o_add rfl) (ve_ixO rfl (pv 0) (ve_int)) (ve_int))) (vss_cons (vs_set (i := 3) sc__law_take.nd rfl (by first | exact .inl rfl | exact .inr rfl) rfl (ve_op op_mod o_mod (ve_callTy call_intS o_int rfl T.f_int b_int (ve_op op_pow o_pow (ve_op op_add4 (o_add rfl) (ve_op op_add4 (o_add rfl) (ve_ixO rfl (pv 0) (ve_int)) (ve_op op_mul2 o_mul (ve_int) (ve_ixO rfl (pv 0) (ve_int)))) (ve_int)) (ve_int))) (ve_int))) (vss_one (vs_ret (ve_op op_mod o_mod (ve_callTy call_intS o_int rfl T.f_int b_int (ve_op op_fdiv o_fdiv (ve_op op_mod o_mod (ve_callTy call_intS o_int rfl T.f_int b_int (ve_op op_pow o_pow (ve_op op_add4 (o_add rfl) (ve_op op_mul2 o_mul (ve_var (pv 3)) (ve_int)) (ve_op op_mul2 o_mul (ve_int) (ve_ixO rfl (pv 0) (ve_int)))) (ve_int))) (ve_int)) (ve_int))) (ve_var (pv 1)))))))), Fn⟩
theorem fv__law_take (T : Txt K w mg)  : Fv P w K mg base (cc K B) 1 "_law_take" 2 m__law_take := by
  obtain ⟨f, fd, hm, ok, Fn⟩ := fo__law_take (P := P) (base := base) (B := B) T 
  exact ⟨f, fd, ["box", "many"], rfl, hm, ok, Fn.kp, Fn.binds fun _ _ _ _ _ _ us hl => match us, hl with | [_, _], _ => rfl⟩
theorem sc__law_same : FnScope ["told", "due", "k"] ["told", "due"] (defScope s__law_same) := ⟨rfl, rfl, rfl, by decide +kernel, rfl, by decide +kernel, by decide +kernel⟩
def b__law_same (m : GF) : GS := sSeq (sIf (gOr (gBl (eOp2 pIs (eVar 1) (eC .non))) (gVal (eOp1 (pIsi "bool") (eVar 1)))) (sRet (eIf (gBl (eOp2 pIs (eVar 1) (eC .non))) (eOp2 pIs (eVar 0) (eC .non)) (eAnd (eOp1 (pIsi "bool") (eVar 0)) (eOp2 pEq (eOp2 pIs (eVar 0) (eC (.bl true))) (eOp2 pIs (eVar 1) (eC (.bl true))))))) (sNil)) (sSeq (sIf (gVal (eOp1 (pIsi "int") (eVar 1))) (sRet (eAnd (eOp1 (pIsi "int") (eVar 0)) (eAnd (eNot (eOp1 (pIsi "bool") (eVar 0))) (eOp2 pEq (eOp2 pSub (eOp1 pInt (eVar 0)) (eVar 1)) (eC (.int 0)))))) (sNil)) (sSeq (sIf (gVal (eOp1 (pIsi "str") (eVar 1))) (sRet (eAnd (eOp1 (pIsi "str") (eVar 0)) (eAnd (eOp2 pEq (eOp1 pLen (eVar 0)) (eOp1 pLen (eVar 1))) (eOp2 pEq (eLst (lLc [2] (iRng (eOp1 pLen (eVar 1))) (gN 2) (gBl (eOp2 pNe (eSl pSl (eVar 0) (oSome (eVar 2)) (oSome (eOp2 pAdd (eVar 2) (eC (.int 1))))) (eOp2 pIx (eVar 1) (eVar 2)))) (eVar 2))) (eLst (lDisp (aNil))))))) (sNil)) (sSeq (sIf (gOr (gBl (eOp2 pNe (eOp1 (pIsi "list") (eVar 0)) (eOp1 (pIsi "list") (eVar 1)))) (gBl (eOp2 pNe (eOp1 (pIsi "tuple") (eVar 0)) (eOp1 (pIsi "tuple") (eVar 1))))) (sRet (eC (.bl false))) (sNil)) (sRet (eAnd (eOp2 pEq (eOp1 pLen (eVar 0)) (eOp1 pLen (eVar 1))) (eOp2 pEq (eLst (lLc [2] (iRng (eOp1 pLen (eVar 1))) (gN 2) (gNot (gVal (eCall m (aCons (eOp2 pIx (eVar 0) (eVar 2)) (aCons (eOp2 pIx (eVar 1) (eVar 2)) (aNil)))))) (eVar 2))) (eLst (lDisp (aNil)))))))))
def m__law_same : Nat → GF
  | 0 => fNo
  | n + 1 => fnV 3 noPin (b__law_same (m__law_same n))
abbrev r__law_same : GF := m__law_same 12
theorem st__law_same (T : Txt K w mg) {j : Nat} {m : GF} (F__law_same : Fv P w K mg base (cc K B) j "_law_same" 2 m) : Fv P w K mg base (cc K B) (j + 1) "_law_same" 2 (fnV 3 noPin (b__law_same m)) := by
  obtain ⟨f, fd, hm, Fn⟩ := T.d__law_same
  exact ⟨f, fd, ["told", "due"], rfl, hm, fn_ok (c := cc K B) (N := ["told", "due", "k"]) (pn := noPin) rfl Fn sc__law_same rfl (by decide) (fun cdv A outer s H E hr => vss_cons (vs_if (vt_pw (vw_or (vt_cmp op_is2 o_is rfl (ve_var (pv 1)) (ve_non)) (vw_or1 (vt_val rfl (ve_isi rfl rfl T.f_isinstance b_isinstance (ve_var (pv 1)) rfl T.f_bool b_bool))))) (vss_one (vs_ret (ve_if (vt_cmp op_is2 o_is rfl (ve_var (pv 1)) (ve_non)) (ve_cmp op_is2 o_is rfl (ve_var (pv 0)) (ve_non)) (ve_and (ve_isi rfl rfl T.f_isinstance b_isinstance (ve_var (pv 0)) rfl T.f_bool b_bool) (ve_one (ve_cmp (op_eq2 (hu64 hr)) (o_eq rfl) rfl (ve_cmp op_is2 o_is rfl (ve_var (pv 0)) (ve_bl)) (ve_cmp op_is2 o_is rfl (ve_var (pv 1)) (ve_bl)))))))) (vss_nil)) (vss_cons (vs_if (vt_val rfl (ve_isi rfl rfl T.f_isinstance b_isinstance (ve_var (pv 1)) rfl T.f_int b_int)) (vss_one (vs_ret (ve_and (ve_isi rfl rfl T.f_isinstance b_isinstance (ve_var (pv 0)) rfl T.f_int b_int) (ve_and (ve_not (ve_isi rfl rfl T.f_isinstance b_isinstance (ve_var (pv 0)) rfl T.f_bool b_bool)) (ve_one (ve_cmp (op_eq2 (hu64 hr)) (o_eq rfl) rfl (ve_op op_sub o_sub (ve_callTy call_intS o_int rfl T.f_int b_int (ve_var (pv 0))) (ve_var (pv 1))) (ve_int))))))) (vss_nil)) (vss_cons (vs_if (vt_val rfl (ve_isi rfl rfl T.f_isinstance b_isinstance (ve_var (pv 1)) rfl T.f_str b_str)) (vss_one (vs_ret (ve_and (ve_isi rfl rfl T.f_isinstance b_isinstance (ve_var (pv 0)) rfl T.f_str b_str) (ve_and (ve_cmp (op_eq2 (hu64 hr)) (o_eq rfl) rfl (ve_callB call_len2 (o_len rfl) rfl T.f_len b_len (ve_var (pv 0))) (ve_callB call_len2 (o_len rfl) rfl T.f_len b_len (ve_var (pv 1)))) (ve_one (ve_cmp (op_eq2 (hu64 hr)) (o_eq rfl) rfl (ve_lst (vl_lc rfl sc__law_same.nd (vi_rng rfl T.f_range (ve_callB call_len2 (o_len rfl) rfl T.f_len b_len (ve_var (pv 1)))) (blkOk_by (own := [("k", 2)]) (by kernel_rfl)) (fun _ _ _ _ _ => pg_name (i := 2) sc__law_same.nd rfl (by first | exact .inl rfl | exact .inr rfl)) (tg_name 2) (fun _ _ _ _ _ => vts_one (vt_cmp (op_ne2 (hu64 hr)) (o_ne rfl) rfl (ve_slice sl_3 (o_sl rfl) (ve_var (pv 0)) (vo_some (ve_var (pv 2))) (vo_some (ve_op op_add4 (o_add rfl) (ve_var (pv 2)) (ve_int)))) (ve_ix (ix_4 (hu1 hr)) (o_ix rfl) (ve_var (pv 1)) (ve_var (pv 2))))) (fun _ _ _ _ _ => ve_var (pv 2)))) (ve_lst (vl_disp (va_nil))))))))) (vss_nil)) (vss_cons (vs_if (vt_pw (vw_or (vt_cmp (op_ne2 (hu64 hr)) (o_ne rfl) rfl (ve_isi rfl rfl T.f_isinstance b_isinstance (ve_var (pv 0)) rfl T.f_list b_list) (ve_isi rfl rfl T.f_isinstance b_isinstance (ve_var (pv 1)) rfl T.f_list b_list)) (vw_or1 (vt_cmp (op_ne2 (hu64 hr)) (o_ne rfl) rfl (ve_isi rfl rfl T.f_isinstance b_isinstance (ve_var (pv 0)) rfl T.f_tuple b_tuple) (ve_isi rfl rfl T.f_isinstance b_isinstance (ve_var (pv 1)) rfl T.f_tuple b_tuple))))) (vss_one (vs_ret (ve_bl))) (vss_nil)) (vss_one (vs_ret (ve_and (ve_cmp (op_eq2 (hu64 hr)) (o_eq rfl) rfl (ve_callB call_len2 (o_len rfl) rfl T.f_len b_len (ve_var (pv 0))) (ve_callB call_len2 (o_len rfl) rfl T.f_len b_len (ve_var (pv 1)))) (ve_one (ve_cmp (op_eq2 (hu64 hr)) (o_eq rfl) rfl (ve_lst (vl_lc rfl sc__law_same.nd (vi_rng rfl T.f_range (ve_callB call_len2 (o_len rfl) rfl T.f_len b_len (ve_var (pv 1)))) (blkOk_by (own := [("k", 2)]) (by kernel_rfl)) (fun _ _ _ _ _ => pg_name (i := 2) sc__law_same.nd rfl (by first | exact .inl rfl | exact .inr rfl)) (tg_name 2) (fun _ _ _ _ _ => vts_one (vt_not (vt_val rfl (ve_call F__law_same hr (Nat.le_refl _) rfl (takes_W0) (va_cons (ve_ix (ix_4 (hu1 hr)) (o_ix rfl) (ve_var (pv 0)) (ve_var (pv 2))) (va_cons (ve_ix (ix_4 (hu1 hr)) (o_ix rfl) (ve_var (pv 1)) (ve_var (pv 2))) (va_nil))))))) (fun _ _ _ _ _ => ve_var (pv 2)))) (ve_lst (vl_disp (va_nil)))))))))))), Fn.kp, Fn.binds fun _ _ _ _ _ _ us hl => match us, hl with | [_, _], _ => rfl⟩
theorem fn__law_same (T : Txt K w mg) : ∀ n : Nat, Fv P w K mg base (cc K B) (n + 1) "_law_same" 2 (m__law_same n)
  | 0 => by
    obtain ⟨f, fd, hm, Fn⟩ := T.d__law_same
    exact ⟨f, fd, ["told", "due"], rfl, hm, fn_no Fn sc__law_same rfl, Fn.kp, Fn.binds fun _ _ _ _ _ _ us hl => match us, hl with | [_, _], _ => rfl⟩
  | n + 1 => st__law_same T (fn__law_same T n)
theorem fv__law_same (T : Txt K w mg) : Fv P w K mg base (cc K B) 13 "_law_same" 2 r__law_same := fn__law_same T 12
theorem sc__law_very : FnScope ["told", "passed"] ["told", "passed"] (defScope s__law_very) := ⟨rfl, rfl, rfl, by decide +kernel, rfl, by decide +kernel, by decide +kernel⟩
theorem fv__law_very (T : Txt K w mg) (V7 : Very7 r__law_same) (F__law_same : Fv P w K mg base (cc K B) 13 "_law_same" 2 r__law_same) : FvV1 P w K mg base (cc K B) 14 "_law_very" r__law_same := by
  obtain ⟨f, fd, hm, Fn⟩ := T.d__law_very
  refine ⟨f, fd, ["told", "passed"], hm, very_ok1 (c := cc K B) V7 Fn sc__law_very (fun cdv A outer s H E hr => ⟨_, _, _, _, _, rfl, vt_val rfl (ve_isi rfl rfl T.f_isinstance b_isinstance (ve_var (pv 1)) rfl T.f_list b_list), vx_app (pv 1), vs_ret (ve_and (ve_isi rfl rfl T.f_isinstance b_isinstance (ve_var (pv 0)) rfl T.f_list b_list) (ve_and (ve_cmp (op_eq2 (hu64 hr)) (o_eq rfl) rfl (ve_callB call_len2 (o_len rfl) rfl T.f_len b_len (ve_var (pv 0))) (ve_callB call_len2 (o_len rfl) rfl T.f_len b_len (ve_var (pv 1)))) (ve_one (ve_call F__law_same hr (by decide) rfl (takes_of rfl rfl rfl rfl) (va_cons (ve_ix (ix_4 (hu1 hr)) (o_ix rfl) (ve_var (pv 0)) (ve_un un_neg o_neg (ve_int))) (va_cons (ve_int) (va_nil))))))), vs_ret (ve_call F__law_same hr (by decide) rfl (takes_of rfl rfl rfl rfl) (va_cons (ve_var (pv 0)) (va_cons (ve_var (pv 1)) (va_nil))))⟩), Fn.kp, Fn.binds fun _ _ _ _ _ _ us hl => match us, hl with | [_, _], _ => rfl⟩
theorem sc__law_plant : FnScope ["box", "states", "acts", "steps", "state", "row", "act", "some", "turn"] ["box", "states", "acts"] (defScope s__law_plant) := ⟨rfl, rfl, rfl, by decide +kernel, rfl, by decide +kernel, by decide +kernel⟩
def b__law_plant : GS := sSeq (sOwn 3 (lDisp (aNil))) (sSeq (sFor (gN 4) (iRng (eVar 1)) (sSeq (sOwn 5 (lDisp (aNil))) (sSeq (sFor (gN 6) (iRng (eVar 2)) (sSeq (sSet 7 (eLst (lOp1 lSS (eLst (lLc [8] (iRng (eOp2 pAdd (eC (.int 1)) (eCallB mTake 0 (aCons (eC (.int 3)) (aNil))))) (gN 8) (gYes) (eCallB mTake 0 (aCons (eVar 1) (aNil)))))))) (sAppO 5 (eIf (gBl (eOp2 pEq (eCallB mTake 0 (aCons (eC (.int 4)) (aNil))) (eC (.int 0)))) (eC .non) (eOp1 pTuple (eVar 7)))))) (sPub 5 (sAppO 3 (eVar 5)))))) (sPub 3 (sRet (eLst (lDisp (aCons (eVar 2) (aCons (eOp1 pTuple (eLst (lLc [4] (iRng (eVar 1)) (gN 4) (gYes) (eCallB mTake 0 (aCons (eC (.int 8)) (aNil)))))) (aCons (eVar 3) (aNil)))))))))
def m__law_plant : GF := fnV 9 pin0 b__law_plant
theorem fo__law_plant (T : Txt K w mg) (F__law_take : Fv P w K mg base (cc K B) 1 "_law_take" 2 mTake) : ∃ f fd, mg "_law_plant" = some (.ref f) ∧ FnOk P w K mg base (L2.CX P w) 2 f fd ["box", "states", "acts"] (SpV (cc K B) 3 m__law_plant) ∧ Fun K "_law_plant" "_law_plant" s__law_plant f fd := by
  obtain ⟨f, fd, hm, Fn⟩ := T.d__law_plant
  exact ⟨f, fd, hm, fn_ok (c := cc K B) (N := ["box", "states", "acts", "steps", "state", "row", "act", "some", "turn"]) (pn := pin0) rfl Fn sc__law_plant rfl (by decide) (fun cdv A outer s H E hr => vss_cons (vs_own (i := 3) sc__law_plant.nd rfl (by first | exact .inl rfl | exact .inr rfl) rfl (vl_disp (va_nil))) (vss_cons (vs_for (passes_of rfl) rfl (vi_rng rfl T.f_range (ve_var (pv 1))) (pg_name (i := 4) sc__law_plant.nd rfl (by first | exact .inl rfl | exact .inr rfl)) (tg_name 4) (by decide) (vss_cons (vs_own (i := 5) sc__law_plant.nd rfl (by first | exact .inl rfl | exact .inr rfl) rfl (vl_disp (va_nil))) (vss_cons (vs_for (passes_of rfl) rfl (vi_rng rfl T.f_range (ve_var (pv 2))) (pg_name (i := 6) sc__law_plant.nd rfl (by first | exact .inl rfl | exact .inr rfl)) (tg_name 6) (by decide) (vss_cons (vs_set (i := 7) sc__law_plant.nd rfl (by first | exact .inl rfl | exact .inr rfl) rfl (ve_lst (vl_sortSet rfl rfl (hu64 hr) rfl T.f_sorted rfl T.f_set (ve_lst (vl_lc rfl sc__law_plant.nd (vi_rng rfl T.f_range (ve_op op_add4 (o_add rfl) (ve_int) (ve_callB' F__law_take hr (by decide) rfl (takes_of rfl rfl rfl rfl) (pv 0) (va_cons (ve_int) (va_nil))))) (blkOk_by (own := [("turn", 8)]) (by kernel_rfl)) (fun _ _ _ _ _ => pg_name (i := 8) sc__law_plant.nd rfl (by first | exact .inl rfl | exact .inr rfl)) (tg_name 8) (fun _ _ _ _ _ => vts_nil) (fun _ _ _ _ _ => ve_callB' F__law_take hr (by decide) rfl (takes_W0) (pv 0) (va_cons (ve_var (pv 1)) (va_nil)))))))) (vss_one (vs_appO (pv 5) (ve_if (vt_cmp (op_eq2 (hu64 hr)) (o_eq rfl) rfl (ve_callB' F__law_take hr (by decide) rfl (takes_of rfl rfl rfl rfl) (pv 0) (va_cons (ve_int) (va_nil))) (ve_int)) (ve_non) (ve_callTy call_tuple2 (o_tuple rfl) rfl T.f_tuple b_tuple (ve_var (pv 7)))))))) (vss_pub (i := 5) (vss_one (vs_appO (pv 3) (ve_var (pv 5)))))))) (vss_pub (i := 3) (vss_one (vs_ret (ve_lst (vl_disp (va_cons (ve_var (pv 2)) (va_cons (ve_callTy call_tuple2 (o_tuple rfl) rfl T.f_tuple b_tuple (ve_lst (vl_lc rfl sc__law_plant.nd (vi_rng rfl T.f_range (ve_var (pv 1))) (blkOk_by (own := [("state", 4)]) (by kernel_rfl)) (fun _ _ _ _ _ => pg_name (i := 4) sc__law_plant.nd rfl (by first | exact .inl rfl | exact .inr rfl)) (tg_name 4) (fun _ _ _ _ _ => vts_nil) (fun _ _ _ _ _ => ve_callB' F__law_take hr (by decide) rfl (takes_W0) (pv 0) (va_cons (ve_int) (va_nil)))))) (va_cons (ve_var (pv 3)) (va_nil))))))))))), Fn⟩
theorem fv__law_plant (T : Txt K w mg) (F__law_take : Fv P w K mg base (cc K B) 1 "_law_take" 2 mTake) : Fv P w K mg base (cc K B) 2 "_law_plant" 3 m__law_plant := by
  obtain ⟨f, fd, hm, ok, Fn⟩ := fo__law_plant (P := P) (base := base) (B := B) T F__law_take
  exact ⟨f, fd, ["box", "states", "acts"], rfl, hm, ok, Fn.kp, Fn.binds fun _ _ _ _ _ _ us hl => match us, hl with | [_, _, _], _ => rfl⟩
theorem sc__law_codes : FnScope ["box", "states", "many", "shift", "found", "state", "turn"] ["box", "states", "many"] (defScope s__law_codes) := ⟨rfl, rfl, rfl, by decide +kernel, rfl, by decide +kernel, by decide +kernel⟩
def b__law_codes : GS := sSeq (sParEL 3 4 (eCallB mTake 0 (aCons (eC (.int 16)) (aNil))) (lDisp (aNil))) (sSeq (sFor (gN 5) (iRng (eVar 1)) (sAppO 4 (eOp2 pMod (eOp1 pInt (eOp2 pAdd (eOp2 pMul (eIf (gBl (eOp2 pLtT (eVar 5) (eVar 2))) (eVar 5) (eCallB mTake 0 (aCons (eVar 2) (aNil)))) (eC (.int 5))) (eVar 3))) (eC (.int 16))))) (sSeq (sSet 6 (eCallB mTake 0 (aCons (eVar 1) (aNil)))) (sPub 4 (sRet (eOp2 pAdd (eSl pSl (eVar 4) (oSome (eVar 6)) (oNone)) (eSl pSl (eVar 4) (oNone) (oSome (eVar 6))))))))
def m__law_codes : GF := fnV 7 pin0 b__law_codes
theorem fo__law_codes (T : Txt K w mg) (F__law_take : Fv P w K mg base (cc K B) 1 "_law_take" 2 mTake) : ∃ f fd, mg "_law_codes" = some (.ref f) ∧ FnOk P w K mg base (L2.CX P w) 2 f fd ["box", "states", "many"] (SpV (cc K B) 3 m__law_codes) ∧ Fun K "_law_codes" "_law_codes" s__law_codes f fd := by
  obtain ⟨f, fd, hm, Fn⟩ := T.d__law_codes
  exact ⟨f, fd, hm, fn_ok (c := cc K B) (N := ["box", "states", "many", "shift", "found", "state", "turn"]) (pn := pin0) rfl Fn sc__law_codes rfl (by decide) (fun cdv A outer s H E hr => vss_cons (vs_parEL (i := 3) (j := 4) rfl sc__law_codes.nd rfl rfl (by decide) rfl rfl rfl rfl (ve_callB' F__law_take hr (by decide) rfl (takes_of rfl rfl rfl rfl) (pv 0) (va_cons (ve_int) (va_nil))) (vl_disp (va_nil)) rfl) (vss_cons (vs_for (passes_of rfl) rfl (vi_rng rfl T.f_range (ve_var (pv 1))) (pg_name (i := 5) sc__law_codes.nd rfl (by first | exact .inl rfl | exact .inr rfl)) (tg_name 5) (by decide) (vss_one (vs_appO (pv 4) (ve_op op_mod o_mod (ve_callTy call_intS o_int rfl T.f_int b_int (ve_op op_add4 (o_add rfl) (ve_op op_mul2 o_mul (ve_if (vt_cmp (op_ltA (hu0 hr)) (o_ltA rfl) rfl (ve_var (pv 5)) (ve_var (pv 2))) (ve_var (pv 5)) (ve_callB' F__law_take hr (by decide) rfl (takes_of rfl rfl rfl rfl) (pv 0) (va_cons (ve_var (pv 2)) (va_nil)))) (ve_int)) (ve_var (pv 3)))) (ve_int))))) (vss_cons (vs_set (i := 6) sc__law_codes.nd rfl (by first | exact .inl rfl | exact .inr rfl) rfl (ve_callB' F__law_take hr (by decide) rfl (takes_of rfl rfl rfl rfl) (pv 0) (va_cons (ve_var (pv 1)) (va_nil)))) (vss_pub (i := 4) (vss_one (vs_ret (ve_op op_add4 (o_add rfl) (ve_slice sl_3 (o_sl rfl) (ve_var (pv 4)) (vo_some (ve_var (pv 6))) (vo_none)) (ve_slice sl_3 (o_sl rfl) (ve_var (pv 4)) (vo_none) (vo_some (ve_var (pv 6))))))))))), Fn⟩
theorem fv__law_codes (T : Txt K w mg) (F__law_take : Fv P w K mg base (cc K B) 1 "_law_take" 2 mTake) : Fv P w K mg base (cc K B) 2 "_law_codes" 3 m__law_codes := by
  obtain ⟨f, fd, hm, ok, Fn⟩ := fo__law_codes (P := P) (base := base) (B := B) T F__law_take
  exact ⟨f, fd, ["box", "states", "many"], rfl, hm, ok, Fn.kp, Fn.binds fun _ _ _ _ _ _ us hl => match us, hl with | [_, _, _], _ => rfl⟩
theorem sc__law_offers : FnScope ["box", "states", "many", "codes", "size", "first", "offers", "second", "k", "looks", "state", "code"] ["box", "states"] (defScope s__law_offers) := ⟨rfl, rfl, rfl, by decide +kernel, rfl, by decide +kernel, by decide +kernel⟩
def b__law_offers : GS := sSeq (sSet 2 (eOp2 pIx (eLst (lDisp (aCons (eOp2 pAdd (eC (.int 1)) (eCallB mTake 0 (aCons (eC (.int 16)) (aNil)))) (aCons (eC (.int 8)) (aCons (eC (.int 9)) (aCons (eC (.int 8)) (aCons (eC (.int 9)) (aCons (eC (.int 16)) (aNil))))))))) (eCallB mTake 0 (aCons (eC (.int 6)) (aNil))))) (sSeq (sPar 3 4 (eCallB m__law_codes 0 (aCons (eVar 1) (aCons (eVar 2) (aNil)))) (eOp2 pIx (eLst (lDisp (aCons (eC (.int 1)) (aCons (eC (.int 2)) (aCons (eC (.int 3)) (aCons (eC (.int 4)) (aCons (eC (.int 5)) (aCons (eC (.int 2)) (aCons (eC (.int 5)) (aNil)))))))))) (eCallB mTake 0 (aCons (eC (.int 7)) (aNil))))) (sSeq (sParEL 5 6 (eCallB mTake 0 (aCons (eOp2 pMax2 (eC (.int 1)) (eOp2 pSub (eVar 4) (eC (.int 1)))) (aNil))) (lDisp (aNil))) (sSeq (sSet 7 (eOp2 pMin2 (eOp2 pSub (eVar 4) (eC (.int 1))) (eOp2 pAdd (eOp2 pAdd (eVar 5) (eC (.int 1))) (eCallB mTake 0 (aCons (eOp2 pMax2 (eC (.int 1)) (eOp2 pSub (eOp2 pSub (eVar 4) (eC (.int 1))) (eVar 5))) (aNil)))))) (sSeq (sFor (gN 8) (iRng (eVar 4)) (sSeq (sSet 9 (eLst (lLc [10] (iRng (eVar 1)) (gN 10) (gYes) (eCallB mTake 0 (aCons (eOp2 pAdd (eC (.int 1)) (eCallB mTake 0 (aCons (eC (.int 4)) (aNil)))) (aNil)))))) (sSeq (sSet 9 (eIf (gBl (eOp2 pEq (eVar 8) (eVar 5))) (eLst (lLc [11] (iSeq (eVar 3)) (gN 11) (gYes) (eOp2 pFdiv (eVar 11) (eC (.int 4))))) (eIf (gBl (eOp2 pEq (eVar 8) (eVar 7))) (eLst (lLc [11] (iSeq (eVar 3)) (gN 11) (gYes) (eOp2 pMod (eOp1 pInt (eVar 11)) (eC (.int 4))))) (eVar 9)))) (sAppO 6 (eTup (aCons (eOp2 pIx (eLst (lDisp (aCons (eC (.int 0)) (aCons (eC (.int 20)) (aCons (eCallB mTake 0 (aCons (eC (.int 21)) (aNil))) (aNil)))))) (eCallB mTake 0 (aCons (eC (.int 3)) (aNil)))) (aCons (eOp1 pTuple (eVar 9)) (aNil)))))))) (sPub 6 (sRet (eLst (lDisp (aCons (eVar 6) (aCons (eIf (gBl (eOp2 pLtT (eVar 5) (eVar 7))) (eTup (aCons (eVar 5) (aCons (eVar 7) (aNil)))) (eTup (aCons (eVar 5) (aNil)))) (aNil)))))))))))
def m__law_offers : GF := fnV 12 pin0 b__law_offers
theorem fo__law_offers (T : Txt K w mg) (F__law_take : Fv P w K mg base (cc K B) 1 "_law_take" 2 mTake) (F__law_codes : Fv P w K mg base (cc K B) 2 "_law_codes" 3 m__law_codes) : ∃ f fd, mg "_law_offers" = some (.ref f) ∧ FnOk P w K mg base (L2.CX P w) 3 f fd ["box", "states"] (SpV (cc K B) 2 m__law_offers) ∧ Fun K "_law_offers" "_law_offers" s__law_offers f fd := by
  obtain ⟨f, fd, hm, Fn⟩ := T.d__law_offers
  exact ⟨f, fd, hm, fn_ok (c := cc K B) (N := ["box", "states", "many", "codes", "size", "first", "offers", "second", "k", "looks", "state", "code"]) (pn := pin0) rfl Fn sc__law_offers rfl (by decide) (fun cdv A outer s H E hr => vss_cons (vs_set (i := 2) sc__law_offers.nd rfl (by first | exact .inl rfl | exact .inr rfl) rfl (ve_ix (ix_4 (hu1 hr)) (o_ix rfl) (ve_lst (vl_disp (va_cons (ve_op op_add4 (o_add rfl) (ve_int) (ve_callB' F__law_take hr (by decide) rfl (takes_of rfl rfl rfl rfl) (pv 0) (va_cons (ve_int) (va_nil)))) (va_cons (ve_int) (va_cons (ve_int) (va_cons (ve_int) (va_cons (ve_int) (va_cons (ve_int) (va_nil))))))))) (ve_callB' F__law_take hr (by decide) rfl (takes_of rfl rfl rfl rfl) (pv 0) (va_cons (ve_int) (va_nil))))) (vss_cons (vs_par (i := 3) (j := 4) rfl sc__law_offers.nd rfl rfl (by decide) rfl rfl rfl rfl (ve_callB' F__law_codes hr (by decide) rfl (takes_of rfl rfl rfl rfl) (pv 0) (va_cons (ve_var (pv 1)) (va_cons (ve_var (pv 2)) (va_nil)))) (ve_ix (ix_4 (hu1 hr)) (o_ix rfl) (ve_lst (vl_disp (va_cons (ve_int) (va_cons (ve_int) (va_cons (ve_int) (va_cons (ve_int) (va_cons (ve_int) (va_cons (ve_int) (va_cons (ve_int) (va_nil)))))))))) (ve_callB' F__law_take hr (by decide) rfl (takes_of rfl rfl rfl rfl) (pv 0) (va_cons (ve_int) (va_nil)))) rfl) (vss_cons (vs_parEL (i := 5) (j := 6) rfl sc__law_offers.nd rfl rfl (by decide) rfl rfl rfl rfl (ve_callB' F__law_take hr (by decide) rfl (takes_of rfl rfl rfl rfl) (pv 0) (va_cons (ve_callB2 (call_max2 rfl) o_max2 rfl T.f_max b_max (ve_int) (ve_op op_sub o_sub (ve_var (pv 4)) (ve_int))) (va_nil))) (vl_disp (va_nil)) rfl) (vss_cons (vs_set (i := 7) sc__law_offers.nd rfl (by first | exact .inl rfl | exact .inr rfl) rfl (ve_callB2 (call_min2 rfl) o_min2 rfl T.f_min b_min (ve_op op_sub o_sub (ve_var (pv 4)) (ve_int)) (ve_op op_add4 (o_add rfl) (ve_op op_add4 (o_add rfl) (ve_var (pv 5)) (ve_int)) (ve_callB' F__law_take hr (by decide) rfl (takes_of rfl rfl rfl rfl) (pv 0) (va_cons (ve_callB2 (call_max2 rfl) o_max2 rfl T.f_max b_max (ve_int) (ve_op op_sub o_sub (ve_op op_sub o_sub (ve_var (pv 4)) (ve_int)) (ve_var (pv 5)))) (va_nil)))))) (vss_cons (vs_for (passes_of rfl) rfl (vi_rng rfl T.f_range (ve_var (pv 4))) (pg_name (i := 8) sc__law_offers.nd rfl (by first | exact .inl rfl | exact .inr rfl)) (tg_name 8) (by decide) (vss_cons (vs_setLc (i := 9) rfl sc__law_offers.nd rfl rfl rfl (sw_true rfl rfl rfl (by decide +kernel)) (vi_rng rfl T.f_range (ve_var (pv 1))) (blkOk_by (own := [("state", 10)]) (by kernel_rfl)) (fun _ _ _ _ _ => pg_name (i := 10) sc__law_offers.nd rfl (by first | exact .inl rfl | exact .inr rfl)) (tg_name 10) (fun _ _ _ _ _ => vts_nil) (fun _ _ _ _ _ => ve_callB' F__law_take hr (by decide) rfl (takes_W0) (pv 0) (va_cons (ve_op op_add4 (o_add rfl) (ve_int) (ve_callB' F__law_take hr (by decide) rfl (takes_W0) (pv 0) (va_cons (ve_int) (va_nil)))) (va_nil)))) (vss_cons (vs_set (i := 9) sc__law_offers.nd rfl (by first | exact .inl rfl | exact .inr rfl) rfl (ve_if (vt_cmp (op_eq2 (hu64 hr)) (o_eq rfl) rfl (ve_var (pv 8)) (ve_var (pv 5))) (ve_lst (vl_lc rfl sc__law_offers.nd (vi_seq rfl (ve_var (pv 3))) (blkOk_by (own := [("code", 11)]) (by kernel_rfl)) (fun _ _ _ _ _ => pg_name (i := 11) sc__law_offers.nd rfl (by first | exact .inl rfl | exact .inr rfl)) (tg_name 11) (fun _ _ _ _ _ => vts_nil) (fun _ _ _ _ _ => ve_op op_fdiv o_fdiv (ve_var (pv 11)) (ve_int)))) (ve_if (vt_cmp (op_eq2 (hu64 hr)) (o_eq rfl) rfl (ve_var (pv 8)) (ve_var (pv 7))) (ve_lst (vl_lc rfl sc__law_offers.nd (vi_seq rfl (ve_var (pv 3))) (blkOk_by (own := [("code", 11)]) (by kernel_rfl)) (fun _ _ _ _ _ => pg_name (i := 11) sc__law_offers.nd rfl (by first | exact .inl rfl | exact .inr rfl)) (tg_name 11) (fun _ _ _ _ _ => vts_nil) (fun _ _ _ _ _ => ve_op op_mod o_mod (ve_callTy call_intS o_int rfl T.f_int b_int (ve_var (pv 11))) (ve_int)))) (ve_var (pv 9))))) (vss_one (vs_appO (pv 6) (ve_tup (va_cons (ve_ix (ix_4 (hu1 hr)) (o_ix rfl) (ve_lst (vl_disp (va_cons (ve_int) (va_cons (ve_int) (va_cons (ve_callB' F__law_take hr (by decide) rfl (takes_of rfl rfl rfl rfl) (pv 0) (va_cons (ve_int) (va_nil))) (va_nil)))))) (ve_callB' F__law_take hr (by decide) rfl (takes_of rfl rfl rfl rfl) (pv 0) (va_cons (ve_int) (va_nil)))) (va_cons (ve_callTy call_tuple2 (o_tuple rfl) rfl T.f_tuple b_tuple (ve_var (pv 9))) (va_nil))))))))) (vss_pub (i := 6) (vss_one (vs_ret (ve_lst (vl_disp (va_cons (ve_var (pv 6)) (va_cons (ve_if (vt_cmp (op_ltA (hu0 hr)) (o_ltA rfl) rfl (ve_var (pv 5)) (ve_var (pv 7))) (ve_tup (va_cons (ve_var (pv 5)) (va_cons (ve_var (pv 7)) (va_nil)))) (ve_tup (va_cons (ve_var (pv 5)) (va_nil)))) (va_nil))))))))))))), Fn⟩
theorem fv__law_offers (T : Txt K w mg) (F__law_take : Fv P w K mg base (cc K B) 1 "_law_take" 2 mTake) (F__law_codes : Fv P w K mg base (cc K B) 2 "_law_codes" 3 m__law_codes) : Fv P w K mg base (cc K B) 3 "_law_offers" 2 m__law_offers := by
  obtain ⟨f, fd, hm, ok, Fn⟩ := fo__law_offers (P := P) (base := base) (B := B) T F__law_take F__law_codes
  exact ⟨f, fd, ["box", "states"], rfl, hm, ok, Fn.kp, Fn.binds fun _ _ _ _ _ _ us hl => match us, hl with | [_, _], _ => rfl⟩
theorem sc__law_chosen : FnScope ["box", "offers", "planted", "some", "k"] ["box", "offers", "planted"] (defScope s__law_chosen) := ⟨rfl, rfl, rfl, by decide +kernel, rfl, by decide +kernel, by decide +kernel⟩
def b__law_chosen : GS := sSeq (sSet 3 (eOp1 pTuple (eLst (lLc [4] (iRng (eOp1 pLen (eVar 1))) (gN 4) (gBl (eOp2 pEq (eCallB mTake 0 (aCons (eC (.int 2)) (aNil))) (eC (.int 0)))) (eVar 4))))) (sRet (eOp2 pIx (eLst (lDisp (aCons (eVar 2) (aCons (eVar 3) (aCons (eTup (aNil)) (aCons (eTupRg (iRng (eOp1 pLen (eVar 1)))) (aCons (eSl pSl (eVar 2) (oNone) (oSome (eC (.int 1)))) (aCons (eVar 2) (aNil))))))))) (eCallB mTake 0 (aCons (eC (.int 6)) (aNil)))))
def m__law_chosen : GF := fnV 5 pin0 b__law_chosen
theorem fo__law_chosen (T : Txt K w mg) (F__law_take : Fv P w K mg base (cc K B) 1 "_law_take" 2 mTake) : ∃ f fd, mg "_law_chosen" = some (.ref f) ∧ FnOk P w K mg base (L2.CX P w) 2 f fd ["box", "offers", "planted"] (SpV (cc K B) 3 m__law_chosen) ∧ Fun K "_law_chosen" "_law_chosen" s__law_chosen f fd := by
  obtain ⟨f, fd, hm, Fn⟩ := T.d__law_chosen
  exact ⟨f, fd, hm, fn_ok (c := cc K B) (N := ["box", "offers", "planted", "some", "k"]) (pn := pin0) rfl Fn sc__law_chosen rfl (by decide) (fun cdv A outer s H E hr => vss_cons (vs_set (i := 3) sc__law_chosen.nd rfl (by first | exact .inl rfl | exact .inr rfl) rfl (ve_callTy call_tuple2 (o_tuple rfl) rfl T.f_tuple b_tuple (ve_lst (vl_lc rfl sc__law_chosen.nd (vi_rng rfl T.f_range (ve_callB call_len2 (o_len rfl) rfl T.f_len b_len (ve_var (pv 1)))) (blkOk_by (own := [("k", 4)]) (by kernel_rfl)) (fun _ _ _ _ _ => pg_name (i := 4) sc__law_chosen.nd rfl (by first | exact .inl rfl | exact .inr rfl)) (tg_name 4) (fun _ _ _ _ _ => vts_one (vt_cmp (op_eq2 (hu64 hr)) (o_eq rfl) rfl (ve_callB' F__law_take hr (by decide) rfl (takes_W0) (pv 0) (va_cons (ve_int) (va_nil))) (ve_int))) (fun _ _ _ _ _ => ve_var (pv 4)))))) (vss_one (vs_ret (ve_ix (ix_4 (hu1 hr)) (o_ix rfl) (ve_lst (vl_disp (va_cons (ve_var (pv 2)) (va_cons (ve_var (pv 3)) (va_cons (ve_tup (va_nil)) (va_cons (ve_tupRg rfl rfl T.f_tuple rfl T.f_range (ve_callB call_len2 (o_len rfl) rfl T.f_len b_len (ve_var (pv 1)))) (va_cons (ve_slice sl_3 (o_sl rfl) (ve_var (pv 2)) (vo_none) (vo_some (ve_int))) (va_cons (ve_var (pv 2)) (va_nil))))))))) (ve_callB' F__law_take hr (by decide) rfl (takes_of rfl rfl rfl rfl) (pv 0) (va_cons (ve_int) (va_nil))))))), Fn⟩
theorem fv__law_chosen (T : Txt K w mg) (F__law_take : Fv P w K mg base (cc K B) 1 "_law_take" 2 mTake) : Fv P w K mg base (cc K B) 2 "_law_chosen" 3 m__law_chosen := by
  obtain ⟨f, fd, hm, ok, Fn⟩ := fo__law_chosen (P := P) (base := base) (B := B) T F__law_take
  exact ⟨f, fd, ["box", "offers", "planted"], rfl, hm, ok, Fn.kp, Fn.binds fun _ _ _ _ _ _ us hl => match us, hl with | [_, _, _], _ => rfl⟩
theorem sc__law_due : FnScope ["plant", "offers", "chosen", "rows", "state", "unlike", "k", "row"] ["plant", "offers", "chosen"] (defScope s__law_due) := ⟨rfl, rfl, rfl, by decide +kernel, rfl, by decide +kernel, by decide +kernel⟩
def b__law_due : GS := sSeq (sOwn 3 (lDisp (aNil))) (sSeq (sFor (gN 4) (iRng (eOp1 pLen (eOp2 pIx (eVar 0) (eC (.int 2))))) (sAppO 3 (eOp1 pTuple (eLst (lLc [6] (iSeq (eVar 2)) (gN 6) (gYes) (eOp2 pIx (eOp2 pIx (eOp2 pIx (eVar 1) (eVar 6)) (eC (.int 1))) (eVar 4))))))) (sPub 3 (sSeq (sSet 5 (eLst (lOp1 lSS (eVar 3)))) (sRet (eIf (gBl (eOp2 pLtT (eOp1 pLen (eVar 5)) (eC (.int 9)))) (eLst (lDisp (aCons (eC (.str "told")) (aCons (eOp1 pTuple (eLst (lLc [7] (iSeq (eVar 3)) (gN 7) (gYes) (eLstM pIndex (eVar 5) (eVar 7))))) (aNil))))) (eLst (lDisp (aCons (eC (.str "many")) (aCons (eOp1 pLen (eVar 5)) (aNil))))))))))
def m__law_due : GF := fnV 8 noPin b__law_due
theorem fo__law_due (T : Txt K w mg)  : ∃ f fd, mg "_law_due" = some (.ref f) ∧ FnOk P w K mg base (L2.CX P w) 1 f fd ["plant", "offers", "chosen"] (SpV (cc K B) 3 m__law_due) ∧ Fun K "_law_due" "_law_due" s__law_due f fd := by
  obtain ⟨f, fd, hm, Fn⟩ := T.d__law_due
  exact ⟨f, fd, hm, fn_ok (c := cc K B) (N := ["plant", "offers", "chosen", "rows", "state", "unlike", "k", "row"]) (pn := noPin) rfl Fn sc__law_due rfl (by decide) (fun cdv A outer s H E hr => vss_cons (vs_own (i := 3) sc__law_due.nd rfl (by first | exact .inl rfl | exact .inr rfl) rfl (vl_disp (va_nil))) (vss_cons (vs_for (passes_of rfl) rfl (vi_rng rfl T.f_range (ve_callB call_len2 (o_len rfl) rfl T.f_len b_len (ve_ix (ix_4 (hu1 hr)) (o_ix rfl) (ve_var (pv 0)) (ve_int)))) (pg_name (i := 4) sc__law_due.nd rfl (by first | exact .inl rfl | exact .inr rfl)) (tg_name 4) (by decide) (vss_one (vs_appO (pv 3) (ve_callTy call_tuple2 (o_tuple rfl) rfl T.f_tuple b_tuple (ve_lst (vl_lc rfl sc__law_due.nd (vi_seq rfl (ve_var (pv 2))) (blkOk_by (own := [("k", 6)]) (by kernel_rfl)) (fun _ _ _ _ _ => pg_name (i := 6) sc__law_due.nd rfl (by first | exact .inl rfl | exact .inr rfl)) (tg_name 6) (fun _ _ _ _ _ => vts_nil) (fun _ _ _ _ _ => ve_ix (ix_4 (hu1 hr)) (o_ix rfl) (ve_ix (ix_4 (hu1 hr)) (o_ix rfl) (ve_ix (ix_4 (hu1 hr)) (o_ix rfl) (ve_var (pv 1)) (ve_var (pv 6))) (ve_int)) (ve_var (pv 4))))))))) (vss_pub (i := 3) (vss_cons (vs_set (i := 5) sc__law_due.nd rfl (by first | exact .inl rfl | exact .inr rfl) rfl (ve_lst (vl_sortSet rfl rfl (hu64 hr) rfl T.f_sorted rfl T.f_set (ve_var (pv 3))))) (vss_one (vs_ret (ve_if (vt_cmp (op_ltA (hu0 hr)) (o_ltA rfl) rfl (ve_callB call_len2 (o_len rfl) rfl T.f_len b_len (ve_var (pv 5))) (ve_int)) (ve_lst (vl_disp (va_cons (ve_str) (va_cons (ve_callTy call_tuple2 (o_tuple rfl) rfl T.f_tuple b_tuple (ve_lst (vl_lc rfl sc__law_due.nd (vi_seq rfl (ve_var (pv 3))) (blkOk_by (own := [("row", 7)]) (by kernel_rfl)) (fun _ _ _ _ _ => pg_name (i := 7) sc__law_due.nd rfl (by first | exact .inl rfl | exact .inr rfl)) (tg_name 7) (fun _ _ _ _ _ => vts_nil) (fun _ _ _ _ _ => ve_index rfl (hu65 hr) (ve_var (pv 5)) (ve_var (pv 7)))))) (va_nil))))) (ve_lst (vl_disp (va_cons (ve_str) (va_cons (ve_callB call_len2 (o_len rfl) rfl T.f_len b_len (ve_var (pv 5))) (va_nil)))))))))))), Fn⟩
theorem fv__law_due (T : Txt K w mg)  : Fv P w K mg base (cc K B) 1 "_law_due" 3 m__law_due := by
  obtain ⟨f, fd, hm, ok, Fn⟩ := fo__law_due (P := P) (base := base) (B := B) T 
  exact ⟨f, fd, ["plant", "offers", "chosen"], rfl, hm, ok, Fn.kp, Fn.binds fun _ _ _ _ _ _ us hl => match us, hl with | [_, _, _], _ => rfl⟩
theorem sc__law_asked : FnScope ["made", "offers", "chosen", "named", "error"] ["made", "offers", "chosen", "named"] (defScope s__law_asked) := ⟨rfl, rfl, rfl, by decide +kernel, rfl, by decide +kernel, by decide +kernel⟩
def b__law_asked : GS := sTry exT [⟨4, some 4, .many [.c (.str "offers"), .f "given"]⟩, ⟨2, some 4, .many [.c (.str "chosen"), .f "given"]⟩, ⟨6, some 4, .many [.c (.str "many"), .f "count"]⟩, ⟨0, none, .many [.c (.str "another error")]⟩] (sSeq (sIf (gVal (eVar 3)) (sRet (eLst (lDisp (aCons (eC (.str "told")) (aCons (eCallK m_bought_plant [2, 1, 0] (aCons (eVar 2) (aCons (eVar 1) (aCons (eVar 0) (aNil))))) (aNil)))))) (sNil)) (sRet (eLst (lDisp (aCons (eC (.str "told")) (aCons (eCall m_bought_plant (aCons (eVar 0) (aCons (eVar 1) (aCons (eVar 2) (aNil))))) (aNil)))))))
def m__law_asked : GF := fnV 5 noPin b__law_asked
theorem fo__law_asked (T : Txt K w mg) (F_bought_plant : Fv P w K mg base (cc K B) 10 "bought_plant" 3 m_bought_plant) (K_bought_plant_chosen_offers_plant : FvK P w K mg base (cc K B) 10 "bought_plant" 3 m_bought_plant ["chosen", "offers", "plant"] [2, 1, 0]) : ∃ f fd, mg "_law_asked" = some (.ref f) ∧ FnOk P w K mg base (L2.CX P w) 11 f fd ["made", "offers", "chosen", "named"] (SpV (cc K B) 4 m__law_asked) ∧ Fun K "_law_asked" "_law_asked" s__law_asked f fd := by
  obtain ⟨f, fd, hm, Fn⟩ := T.d__law_asked
  exact ⟨f, fd, hm, fn_ok (c := cc K B) (N := ["made", "offers", "chosen", "named", "error"]) (pn := noPin) rfl Fn sc__law_asked rfl (by decide) (fun cdv A outer s H E hr => vss_one (vs_try rfl rfl rfl sc__law_asked.nd (takes_of rfl rfl rfl rfl) T.exm (fun W pl xe tk ps => vss_cons (vs_if (vt_val rfl (ve_var (pv 3))) (vss_one (vs_ret (ve_lst (vl_disp (va_cons (ve_str) (va_cons (ve_callK K_bought_plant_chosen_offers_plant hr (by decide) rfl rfl (tk) (vk_cons (ve_var (pv 2)) (vk_cons (ve_var (pv 1)) (vk_cons (ve_var (pv 0)) (vk_nil))))) (va_nil))))))) (vss_nil)) (vss_one (vs_ret (ve_lst (vl_disp (va_cons (ve_str) (va_cons (ve_call F_bought_plant hr (by decide) rfl (tk) (va_cons (ve_var (pv 0)) (va_cons (ve_var (pv 1)) (va_cons (ve_var (pv 2)) (va_nil))))) (va_nil)))))))) (.named (i := 4) ⟨rfl, by decide, .inl T.g_InvalidOffers⟩ rfl rfl (suite_many (i := 4) (fun a oe cls d pl hz hf => .cons (pe_str) (.cons (pe_xf T.x_InvalidOffers.xf T.x_InvalidOffers.no hz hf (pv 4)) (.nil) rfl) rfl)) (.named (i := 4) ⟨rfl, by decide, .inl T.g_InvalidChosen⟩ rfl rfl (suite_many (i := 4) (fun a oe cls d pl hz hf => .cons (pe_str) (.cons (pe_xf T.x_InvalidChosen.xf T.x_InvalidChosen.no hz hf (pv 4)) (.nil) rfl) rfl)) (.named (i := 4) ⟨rfl, by decide, .inl T.g_TooMany⟩ rfl rfl (suite_many (i := 4) (fun a oe cls d pl hz hf => .cons (pe_str) (.cons (pe_xf T.x_TooMany.xf T.x_TooMany.no hz hf (pv 4)) (.nil) rfl) rfl)) (.bare ⟨rfl, by decide, .inl T.g_WireError⟩ (suite_many (i := 0) (fun a oe cls d pl hz hf => .cons (pe_str) (.nil) rfl)) (.nil))))) (hdsOk_ok (by rfl)))), Fn⟩
theorem fv__law_asked (T : Txt K w mg) (F_bought_plant : Fv P w K mg base (cc K B) 10 "bought_plant" 3 m_bought_plant) (K_bought_plant_chosen_offers_plant : FvK P w K mg base (cc K B) 10 "bought_plant" 3 m_bought_plant ["chosen", "offers", "plant"] [2, 1, 0]) : Fv P w K mg base (cc K B) 11 "_law_asked" 4 m__law_asked := by
  obtain ⟨f, fd, hm, ok, Fn⟩ := fo__law_asked (P := P) (base := base) (B := B) T F_bought_plant K_bought_plant_chosen_offers_plant
  exact ⟨f, fd, ["made", "offers", "chosen", "named"], rfl, hm, ok, Fn.kp, Fn.binds fun _ _ _ _ _ _ us hl => match us, hl with | [_, _, _, _], _ => rfl⟩
theorem sc__law_frozen : FnScope ["steps", "row"] ["steps"] (defScope s__law_frozen) := ⟨rfl, rfl, rfl, by decide +kernel, rfl, by decide +kernel, by decide +kernel⟩
def b__law_frozen : GS := sRet (eOp1 pTuple (eLst (lLc [1] (iSeq (eVar 0)) (gN 1) (gYes) (eOp1 pTuple (eVar 1)))))
def m__law_frozen : GF := fnV 2 noPin b__law_frozen
theorem fo__law_frozen (T : Txt K w mg)  : ∃ f fd, mg "_law_frozen" = some (.ref f) ∧ FnOk P w K mg base (L2.CX P w) 1 f fd ["steps"] (SpV (cc K B) 1 m__law_frozen) ∧ Fun K "_law_frozen" "_law_frozen" s__law_frozen f fd := by
  obtain ⟨f, fd, hm, Fn⟩ := T.d__law_frozen
  exact ⟨f, fd, hm, fn_ok (c := cc K B) (N := ["steps", "row"]) (pn := noPin) rfl Fn sc__law_frozen rfl (by decide) (fun cdv A outer s H E hr => vss_one (vs_ret (ve_callTy call_tuple2 (o_tuple rfl) rfl T.f_tuple b_tuple (ve_lst (vl_lc rfl sc__law_frozen.nd (vi_seq rfl (ve_var (pv 0))) (blkOk_by (own := [("row", 1)]) (by kernel_rfl)) (fun _ _ _ _ _ => pg_name (i := 1) sc__law_frozen.nd rfl (by first | exact .inl rfl | exact .inr rfl)) (tg_name 1) (fun _ _ _ _ _ => vts_nil) (fun _ _ _ _ _ => ve_callTy call_tuple2 (o_tuple rfl) rfl T.f_tuple b_tuple (ve_var (pv 1)))))))), Fn⟩
theorem fv__law_frozen (T : Txt K w mg)  : Fv P w K mg base (cc K B) 1 "_law_frozen" 1 m__law_frozen := by
  obtain ⟨f, fd, hm, ok, Fn⟩ := fo__law_frozen (P := P) (base := base) (B := B) T 
  exact ⟨f, fd, ["steps"], rfl, hm, ok, Fn.kp, Fn.binds fun _ _ _ _ _ _ us hl => match us, hl with | [_], _ => rfl⟩
theorem sc__law_is_plant : FnScope ["value", "acts", "looks", "steps", "same", "other"] ["value", "acts", "looks", "steps"] (defScope s__law_is_plant) := ⟨rfl, rfl, rfl, by decide +kernel, rfl, by decide +kernel, by decide +kernel⟩
def b__law_is_plant : GS := sSeq (sIf (gOr (gNot (gVal (eOp1 (pIsC 7) (eVar 0)))) (gNot (gVal (eCall r__law_same (aCons (eLst (lDisp (aCons (eFld flds_Plant "acts" 7 (eVar 0)) (aCons (eFld flds_Plant "looks" 7 (eVar 0)) (aCons (eFld flds_Plant "steps" 7 (eVar 0)) (aNil)))))) (aCons (eLst (lDisp (aCons (eVar 1) (aCons (eVar 2) (aCons (eCall m__law_frozen (aCons (eVar 3) (aNil))) (aNil)))))) (aNil))))))) (sRet (eC (.bl false))) (sNil)) (sSeq (sPar 4 5 (eNew 7 m_Plant (aCons (eVar 1) (aCons (eVar 2) (aCons (eVar 3) (aNil))))) (eNew 7 m_Plant (aCons (eVar 1) (aCons (eOp2 pAdd (eTup (aCons (eIf (gBl (eOp2 pLtT (eOp2 pIx (eVar 2) (eC (.int 0))) (eC (.int 7)))) (eOp2 pAdd (eOp2 pIx (eVar 2) (eC (.int 0))) (eC (.int 1))) (eC (.int 6))) (aNil))) (eSl pSl (eVar 2) (oSome (eC (.int 1))) (oNone))) (aCons (eVar 3) (aNil)))))) (sRet (eCall r__law_same (aCons (eLst (lDisp (aCons (eEqI 7 m_Plant_eq (eVar 0) (eVar 4)) (aCons (eEqI 7 m_Plant_eq (eVar 4) (eVar 0)) (aCons (eEqI 7 m_Plant_eq (eVar 0) (eVar 5)) (aCons (eEqI 7 m_Plant_eq (eVar 5) (eVar 0)) (aCons (eEqI 7 m_Plant_eq (eVar 0) (eC (.int 7))) (aNil)))))))) (aCons (eLst (lDisp (aCons (eC (.bl true)) (aCons (eC (.bl true)) (aCons (eC (.bl false)) (aCons (eC (.bl false)) (aCons (eC (.bl false)) (aNil)))))))) (aNil))))))
def m__law_is_plant : GF := fnV 6 noPin b__law_is_plant
theorem fo__law_is_plant (T : Txt K w mg) (F__law_same : Fv P w K mg base (cc K B) 13 "_law_same" 2 r__law_same) (F__law_frozen : Fv P w K mg base (cc K B) 1 "_law_frozen" 1 m__law_frozen) (N_Plant : Nv P w K mg base (cc K B) 7 "Plant" 7 3 m_Plant) (Q_Plant : EqT P w K mg base (cc K B) 1 7 m_Plant_eq) : ∃ f fd, mg "_law_is_plant" = some (.ref f) ∧ FnOk P w K mg base (L2.CX P w) 14 f fd ["value", "acts", "looks", "steps"] (SpV (cc K B) 4 m__law_is_plant) ∧ Fun K "_law_is_plant" "_law_is_plant" s__law_is_plant f fd := by
  obtain ⟨f, fd, hm, Fn⟩ := T.d__law_is_plant
  exact ⟨f, fd, hm, fn_ok (c := cc K B) (N := ["value", "acts", "looks", "steps", "same", "other"]) (pn := noPin) rfl Fn sc__law_is_plant rfl (by decide) (fun cdv A outer s H E hr => vss_cons (vs_if (vt_pw (vw_or (vt_not (vt_val rfl (ve_isC rfl rfl T.f_isinstance b_isinstance (ve_var (pv 0)) rfl T.g_Plant T.c_Plant T.k_Plant))) (vw_or1 (vt_not (vt_val rfl (ve_call F__law_same hr (by decide) rfl (takes_of rfl rfl rfl rfl) (va_cons (ve_lst (vl_disp (va_cons (ve_fld rfl T.c_Plant (ve_var (pv 0))) (va_cons (ve_fld rfl T.c_Plant (ve_var (pv 0))) (va_cons (ve_fld rfl T.c_Plant (ve_var (pv 0))) (va_nil)))))) (va_cons (ve_lst (vl_disp (va_cons (ve_var (pv 1)) (va_cons (ve_var (pv 2)) (va_cons (ve_call F__law_frozen hr (by decide) rfl (takes_of rfl rfl rfl rfl) (va_cons (ve_var (pv 3)) (va_nil))) (va_nil)))))) (va_nil))))))))) (vss_one (vs_ret (ve_bl))) (vss_nil)) (vss_cons (vs_par (i := 4) (j := 5) rfl sc__law_is_plant.nd rfl rfl (by decide) rfl rfl rfl rfl (ve_new N_Plant hr (by decide) rfl (takes_of rfl rfl rfl rfl) (va_cons (ve_var (pv 1)) (va_cons (ve_var (pv 2)) (va_cons (ve_var (pv 3)) (va_nil))))) (ve_new N_Plant hr (by decide) rfl (takes_of rfl rfl rfl rfl) (va_cons (ve_var (pv 1)) (va_cons (ve_op op_add4 (o_add rfl) (ve_tup (va_cons (ve_if (vt_cmp (op_ltA (hu0 hr)) (o_ltA rfl) rfl (ve_ix (ix_4 (hu1 hr)) (o_ix rfl) (ve_var (pv 2)) (ve_int)) (ve_int)) (ve_op op_add4 (o_add rfl) (ve_ix (ix_4 (hu1 hr)) (o_ix rfl) (ve_var (pv 2)) (ve_int)) (ve_int)) (ve_int)) (va_nil))) (ve_slice sl_3 (o_sl rfl) (ve_var (pv 2)) (vo_some (ve_int)) (vo_none))) (va_cons (ve_var (pv 3)) (va_nil))))) rfl) (vss_one (vs_ret (ve_call F__law_same hr (by decide) rfl (takes_of rfl rfl rfl rfl) (va_cons (ve_lst (vl_disp (va_cons (ve_eqI Q_Plant hr (by decide) (ve_var (pv 0)) (ve_var (pv 4))) (va_cons (ve_eqI Q_Plant hr (by decide) (ve_var (pv 4)) (ve_var (pv 0))) (va_cons (ve_eqI Q_Plant hr (by decide) (ve_var (pv 0)) (ve_var (pv 5))) (va_cons (ve_eqI Q_Plant hr (by decide) (ve_var (pv 5)) (ve_var (pv 0))) (va_cons (ve_eqI Q_Plant hr (by decide) (ve_var (pv 0)) (ve_int)) (va_nil)))))))) (va_cons (ve_lst (vl_disp (va_cons (ve_bl) (va_cons (ve_bl) (va_cons (ve_bl) (va_cons (ve_bl) (va_cons (ve_bl) (va_nil)))))))) (va_nil)))))))), Fn⟩
theorem fv__law_is_plant (T : Txt K w mg) (F__law_same : Fv P w K mg base (cc K B) 13 "_law_same" 2 r__law_same) (F__law_frozen : Fv P w K mg base (cc K B) 1 "_law_frozen" 1 m__law_frozen) (N_Plant : Nv P w K mg base (cc K B) 7 "Plant" 7 3 m_Plant) (Q_Plant : EqT P w K mg base (cc K B) 1 7 m_Plant_eq) : Fv P w K mg base (cc K B) 14 "_law_is_plant" 4 m__law_is_plant := by
  obtain ⟨f, fd, hm, ok, Fn⟩ := fo__law_is_plant (P := P) (base := base) (B := B) T F__law_same F__law_frozen N_Plant Q_Plant
  exact ⟨f, fd, ["value", "acts", "looks", "steps"], rfl, hm, ok, Fn.kp, Fn.binds fun _ _ _ _ _ _ us hl => match us, hl with | [_, _, _, _], _ => rfl⟩
theorem sc__law_asked_right : FnScope ["plant", "offers", "chosen", "named", "made", "passed", "kept", "due", "told"] ["plant", "offers", "chosen", "named"] (defScope s__law_asked_right) := ⟨rfl, rfl, rfl, by decide +kernel, rfl, by decide +kernel, by decide +kernel⟩
def b__law_asked_right : GS := sSeq (sPar3 4 5 6 (eNew 7 m_Plant (aCons (eOp2 pIx (eVar 0) (eC (.int 0))) (aCons (eOp2 pIx (eVar 0) (eC (.int 1))) (aCons (eOp2 pIx (eVar 0) (eC (.int 2))) (aNil))))) (eIf (gVal (eVar 3)) (eVar 1) (eOp1 pTuple (eVar 1))) (eOp1 pRepr (eVar 1))) (sSeq (sPar 7 8 (eCall m__law_due (aCons (eVar 0) (aCons (eVar 1) (aCons (eVar 2) (aNil))))) (eCall m__law_asked (aCons (eVar 4) (aCons (eVar 5) (aCons (eVar 2) (aCons (eVar 3) (aNil))))))) (sSeq (sIf (gOr (gNot (gVal (eCall m__law_is_plant (aCons (eVar 4) (aCons (eOp2 pIx (eVar 0) (eC (.int 0))) (aCons (eOp2 pIx (eVar 0) (eC (.int 1))) (aCons (eOp2 pIx (eVar 0) (eC (.int 2))) (aNil)))))))) (gBl (eOp2 pNe (eOp1 pRepr (eVar 1)) (eVar 6)))) (sRet (eC (.bl false))) (sNil)) (sSeq (sIf (gOr (gBl (eOp2 pEq (eOp2 pIx (eVar 7) (eC (.int 0))) (eC (.str "many")))) (gBl (eOp2 pNe (eOp2 pIx (eVar 8) (eC (.int 0))) (eC (.str "told"))))) (sRet (eCall r__law_same (aCons (eVar 8) (aCons (eVar 7) (aNil))))) (sNil)) (sRet (eCall m__law_is_plant (aCons (eOp2 pIx (eVar 8) (eC (.int 1))) (aCons (eOp2 pIx (eVar 0) (eC (.int 0))) (aCons (eOp2 pIx (eVar 7) (eC (.int 1))) (aCons (eOp2 pIx (eVar 0) (eC (.int 2))) (aNil))))))))))
def m__law_asked_right : GF := fnV 9 noPin b__law_asked_right
theorem fo__law_asked_right (T : Txt K w mg) (N_Plant : Nv P w K mg base (cc K B) 7 "Plant" 7 3 m_Plant) (F__law_due : Fv P w K mg base (cc K B) 1 "_law_due" 3 m__law_due) (F__law_asked : Fv P w K mg base (cc K B) 11 "_law_asked" 4 m__law_asked) (F__law_is_plant : Fv P w K mg base (cc K B) 14 "_law_is_plant" 4 m__law_is_plant) (F__law_same : Fv P w K mg base (cc K B) 13 "_law_same" 2 r__law_same) : ∃ f fd, mg "_law_asked_right" = some (.ref f) ∧ FnOkG P w K mg base (L2.CX P w) 15 f fd ["plant", "offers", "chosen", "named"] (SpV (cc K B) 4 m__law_asked_right) ∧ Fun K "_law_asked_right" "_law_asked_right" s__law_asked_right f fd := by
  obtain ⟨f, fd, hm, Fn⟩ := T.d__law_asked_right
  exact ⟨f, fd, hm, fn_okG (c := cc K B) (N := ["plant", "offers", "chosen", "named", "made", "passed", "kept", "due", "told"]) (pn := noPin) rfl Fn sc__law_asked_right rfl (by decide) (fun cdv A outer s H E hr hG => vss_cons (vs_par3 (i := 4) (j := 5) (l := 6) rfl sc__law_asked_right.nd rfl rfl rfl (by decide) (by decide) (by decide) rfl rfl rfl rfl rfl rfl (ve_new N_Plant hr (by decide) rfl (takes_of rfl rfl rfl rfl) (va_cons (ve_ix (ix_4 (hu1 hr)) (o_ix rfl) (ve_var (pv 0)) (ve_int)) (va_cons (ve_ix (ix_4 (hu1 hr)) (o_ix rfl) (ve_var (pv 0)) (ve_int)) (va_cons (ve_ix (ix_4 (hu1 hr)) (o_ix rfl) (ve_var (pv 0)) (ve_int)) (va_nil))))) (ve_if (vt_val rfl (ve_var (pv 3))) (ve_var (pv 1)) (ve_callTy call_tuple2 (o_tuple rfl) rfl T.f_tuple b_tuple (ve_var (pv 1)))) (ve_repr rfl hG (hu64 hr) rfl T.f_repr (ve_var (pv 1))) rfl) (vss_cons (vs_par (i := 7) (j := 8) rfl sc__law_asked_right.nd rfl rfl (by decide) rfl rfl rfl rfl (ve_call F__law_due hr (by decide) rfl (takes_of rfl rfl rfl rfl) (va_cons (ve_var (pv 0)) (va_cons (ve_var (pv 1)) (va_cons (ve_var (pv 2)) (va_nil))))) (ve_call F__law_asked hr (by decide) rfl (takes_of rfl rfl rfl rfl) (va_cons (ve_var (pv 4)) (va_cons (ve_var (pv 5)) (va_cons (ve_var (pv 2)) (va_cons (ve_var (pv 3)) (va_nil)))))) rfl) (vss_cons (vs_if (vt_pw (vw_or (vt_not (vt_val rfl (ve_call F__law_is_plant hr (by decide) rfl (takes_of rfl rfl rfl rfl) (va_cons (ve_var (pv 4)) (va_cons (ve_ix (ix_4 (hu1 hr)) (o_ix rfl) (ve_var (pv 0)) (ve_int)) (va_cons (ve_ix (ix_4 (hu1 hr)) (o_ix rfl) (ve_var (pv 0)) (ve_int)) (va_cons (ve_ix (ix_4 (hu1 hr)) (o_ix rfl) (ve_var (pv 0)) (ve_int)) (va_nil)))))))) (vw_or1 (vt_cmp (op_ne2 (hu64 hr)) (o_ne rfl) rfl (ve_repr rfl hG (hu64 hr) rfl T.f_repr (ve_var (pv 1))) (ve_var (pv 6)))))) (vss_one (vs_ret (ve_bl))) (vss_nil)) (vss_cons (vs_if (vt_pw (vw_or (vt_cmp (op_eq2 (hu64 hr)) (o_eq rfl) rfl (ve_ix (ix_4 (hu1 hr)) (o_ix rfl) (ve_var (pv 7)) (ve_int)) (ve_str)) (vw_or1 (vt_cmp (op_ne2 (hu64 hr)) (o_ne rfl) rfl (ve_ix (ix_4 (hu1 hr)) (o_ix rfl) (ve_var (pv 8)) (ve_int)) (ve_str))))) (vss_one (vs_ret (ve_call F__law_same hr (by decide) rfl (takes_of rfl rfl rfl rfl) (va_cons (ve_var (pv 8)) (va_cons (ve_var (pv 7)) (va_nil)))))) (vss_nil)) (vss_one (vs_ret (ve_call F__law_is_plant hr (by decide) rfl (takes_of rfl rfl rfl rfl) (va_cons (ve_ix (ix_4 (hu1 hr)) (o_ix rfl) (ve_var (pv 8)) (ve_int)) (va_cons (ve_ix (ix_4 (hu1 hr)) (o_ix rfl) (ve_var (pv 0)) (ve_int)) (va_cons (ve_ix (ix_4 (hu1 hr)) (o_ix rfl) (ve_var (pv 7)) (ve_int)) (va_cons (ve_ix (ix_4 (hu1 hr)) (o_ix rfl) (ve_var (pv 0)) (ve_int)) (va_nil)))))))))))), Fn⟩
theorem fv__law_asked_right (T : Txt K w mg) (N_Plant : Nv P w K mg base (cc K B) 7 "Plant" 7 3 m_Plant) (F__law_due : Fv P w K mg base (cc K B) 1 "_law_due" 3 m__law_due) (F__law_asked : Fv P w K mg base (cc K B) 11 "_law_asked" 4 m__law_asked) (F__law_is_plant : Fv P w K mg base (cc K B) 14 "_law_is_plant" 4 m__law_is_plant) (F__law_same : Fv P w K mg base (cc K B) 13 "_law_same" 2 r__law_same) : FvG P w K mg base (cc K B) 15 "_law_asked_right" 4 m__law_asked_right := by
  obtain ⟨f, fd, hm, ok, Fn⟩ := fo__law_asked_right (P := P) (base := base) (B := B) T N_Plant F__law_due F__law_asked F__law_is_plant F__law_same
  exact ⟨f, fd, ["plant", "offers", "chosen", "named"], rfl, hm, ok, Fn.kp, Fn.binds fun _ _ _ _ _ _ us hl => match us, hl with | [_, _, _, _], _ => rfl⟩
theorem sc__law_bad_offer : FnScope ["box", "offer", "price", "looks", "at", "worth", "bent"] ["box", "offer"] (defScope s__law_bad_offer) := ⟨rfl, rfl, rfl, by decide +kernel, rfl, by decide +kernel, by decide +kernel⟩
def b__law_bad_offer : GS := sSeq (sTgt (gT [2, 3]) (eVar 1)) (sSeq (sPar 4 5 (eCallB mTake 0 (aCons (eOp1 pLen (eVar 3)) (aNil))) (eOp2 pIx (eLst (lDisp (aCons (eC (.int 4)) (aCons (eOp1 pNeg (eC (.int 1))) (aCons (eC (.bl true)) (aCons (eC .non) (aCons (eC (.str "1")) (aCons (eTup (aCons (eC (.int 1)) (aNil))) (aNil))))))))) (eCallB mTake 0 (aCons (eC (.int 6)) (aNil))))) (sSeq (sSet 6 (eOp2 pAdd (eOp2 pAdd (eSl pSl (eVar 3) (oNone) (oSome (eVar 4))) (eTup (aCons (eVar 5) (aNil)))) (eSl pSl (eVar 3) (oSome (eOp2 pAdd (eVar 4) (eC (.int 1)))) (oNone)))) (sRet (eOp2 pIx (eLst (lDisp (aCons (eTup (aCons (eOp2 pIx (eLst (lDisp (aCons (eC (.int 21)) (aCons (eOp1 pNeg (eC (.int 1))) (aCons (eC (.bl true)) (aCons (eC .non) (aCons (eC (.str "3")) (aNil)))))))) (eCallB mTake 0 (aCons (eC (.int 5)) (aNil)))) (aCons (eVar 3) (aNil)))) (aCons (eTup (aCons (eVar 2) (aCons (eLst (lOp1 lList (eVar 3))) (aNil)))) (aCons (eTup (aCons (eVar 2) (aCons (eSl pSl (eVar 3) (oNone) (oSome (eOp1 pNeg (eC (.int 1))))) (aNil)))) (aCons (eTup (aCons (eVar 2) (aCons (eOp2 pAdd (eVar 3) (eTup (aCons (eC (.int 0)) (aNil)))) (aNil)))) (aCons (eTup (aCons (eVar 2) (aCons (eVar 6) (aNil)))) (aCons (eTup (aCons (eVar 2) (aCons (eVar 6) (aNil)))) (aCons (eLst (lDisp (aCons (eVar 2) (aCons (eVar 3) (aNil))))) (aCons (eTup (aCons (eVar 2) (aNil))) (aCons (eTup (aCons (eVar 2) (aCons (eVar 3) (aCons (eC (.int 0)) (aNil))))) (aCons (eVar 3) (aCons (eC .non) (aCons (eTup (aCons (eVar 2) (aCons (eC .non) (aNil)))) (aNil))))))))))))))) (eCallB mTake 0 (aCons (eC (.int 12)) (aNil)))))))
def m__law_bad_offer : GF := fnV 7 pin0 b__law_bad_offer
theorem fo__law_bad_offer (T : Txt K w mg) (F__law_take : Fv P w K mg base (cc K B) 1 "_law_take" 2 mTake) : ∃ f fd, mg "_law_bad_offer" = some (.ref f) ∧ FnOk P w K mg base (L2.CX P w) 2 f fd ["box", "offer"] (SpV (cc K B) 2 m__law_bad_offer) ∧ Fun K "_law_bad_offer" "_law_bad_offer" s__law_bad_offer f fd := by
  obtain ⟨f, fd, hm, Fn⟩ := T.d__law_bad_offer
  exact ⟨f, fd, hm, fn_ok (c := cc K B) (N := ["box", "offer", "price", "looks", "at", "worth", "bent"]) (pn := pin0) rfl Fn sc__law_bad_offer rfl (by decide) (fun cdv A outer s H E hr => vss_cons (vs_tgt (ve_var (pv 1)) (pg_tup rfl (pgs_cons (pg_name (i := 2) sc__law_bad_offer.nd rfl (by first | exact .inl rfl | exact .inr rfl)) (pgs_cons (pg_name (i := 3) sc__law_bad_offer.nd rfl (by first | exact .inl rfl | exact .inr rfl)) (pgs_nil)))) (tg_tup rfl (.cons (.cons (.nil)))) (by decide)) (vss_cons (vs_par (i := 4) (j := 5) rfl sc__law_bad_offer.nd rfl rfl (by decide) rfl rfl rfl rfl (ve_callB' F__law_take hr (by decide) rfl (takes_of rfl rfl rfl rfl) (pv 0) (va_cons (ve_callB call_len2 (o_len rfl) rfl T.f_len b_len (ve_var (pv 3))) (va_nil))) (ve_ix (ix_4 (hu1 hr)) (o_ix rfl) (ve_lst (vl_disp (va_cons (ve_int) (va_cons (ve_un un_neg o_neg (ve_int)) (va_cons (ve_bl) (va_cons (ve_non) (va_cons (ve_str) (va_cons (ve_tup (va_cons (ve_int) (va_nil))) (va_nil))))))))) (ve_callB' F__law_take hr (by decide) rfl (takes_of rfl rfl rfl rfl) (pv 0) (va_cons (ve_int) (va_nil)))) rfl) (vss_cons (vs_set (i := 6) sc__law_bad_offer.nd rfl (by first | exact .inl rfl | exact .inr rfl) rfl (ve_op op_add4 (o_add rfl) (ve_op op_add4 (o_add rfl) (ve_slice sl_3 (o_sl rfl) (ve_var (pv 3)) (vo_none) (vo_some (ve_var (pv 4)))) (ve_tup (va_cons (ve_var (pv 5)) (va_nil)))) (ve_slice sl_3 (o_sl rfl) (ve_var (pv 3)) (vo_some (ve_op op_add4 (o_add rfl) (ve_var (pv 4)) (ve_int))) (vo_none)))) (vss_one (vs_ret (ve_ix (ix_4 (hu1 hr)) (o_ix rfl) (ve_lst (vl_disp (va_cons (ve_tup (va_cons (ve_ix (ix_4 (hu1 hr)) (o_ix rfl) (ve_lst (vl_disp (va_cons (ve_int) (va_cons (ve_un un_neg o_neg (ve_int)) (va_cons (ve_bl) (va_cons (ve_non) (va_cons (ve_str) (va_nil)))))))) (ve_callB' F__law_take hr (by decide) rfl (takes_of rfl rfl rfl rfl) (pv 0) (va_cons (ve_int) (va_nil)))) (va_cons (ve_var (pv 3)) (va_nil)))) (va_cons (ve_tup (va_cons (ve_var (pv 2)) (va_cons (ve_lst (vl_callTy call_list2 (o_list rfl) rfl T.f_list b_list (ve_var (pv 3)))) (va_nil)))) (va_cons (ve_tup (va_cons (ve_var (pv 2)) (va_cons (ve_slice sl_3 (o_sl rfl) (ve_var (pv 3)) (vo_none) (vo_some (ve_un un_neg o_neg (ve_int)))) (va_nil)))) (va_cons (ve_tup (va_cons (ve_var (pv 2)) (va_cons (ve_op op_add4 (o_add rfl) (ve_var (pv 3)) (ve_tup (va_cons (ve_int) (va_nil)))) (va_nil)))) (va_cons (ve_tup (va_cons (ve_var (pv 2)) (va_cons (ve_var (pv 6)) (va_nil)))) (va_cons (ve_tup (va_cons (ve_var (pv 2)) (va_cons (ve_var (pv 6)) (va_nil)))) (va_cons (ve_lst (vl_disp (va_cons (ve_var (pv 2)) (va_cons (ve_var (pv 3)) (va_nil))))) (va_cons (ve_tup (va_cons (ve_var (pv 2)) (va_nil))) (va_cons (ve_tup (va_cons (ve_var (pv 2)) (va_cons (ve_var (pv 3)) (va_cons (ve_int) (va_nil))))) (va_cons (ve_var (pv 3)) (va_cons (ve_non) (va_cons (ve_tup (va_cons (ve_var (pv 2)) (va_cons (ve_non) (va_nil)))) (va_nil))))))))))))))) (ve_callB' F__law_take hr (by decide) rfl (takes_of rfl rfl rfl rfl) (pv 0) (va_cons (ve_int) (va_nil))))))))), Fn⟩
theorem fv__law_bad_offer (T : Txt K w mg) (F__law_take : Fv P w K mg base (cc K B) 1 "_law_take" 2 mTake) : Fv P w K mg base (cc K B) 2 "_law_bad_offer" 2 m__law_bad_offer := by
  obtain ⟨f, fd, hm, ok, Fn⟩ := fo__law_bad_offer (P := P) (base := base) (B := B) T F__law_take
  exact ⟨f, fd, ["box", "offer"], rfl, hm, ok, Fn.kp, Fn.binds fun _ _ _ _ _ _ us hl => match us, hl with | [_, _], _ => rfl⟩
theorem sc__law_refused : FnScope ["box", "made", "offers", "chosen", "named", "first", "at", "bent", "bad", "some", "many", "wrong", "told"] ["box", "made", "offers", "chosen", "named"] (defScope s__law_refused) := ⟨rfl, rfl, rfl, by decide +kernel, rfl, by decide +kernel, by decide +kernel⟩
def b__law_refused : GS := sSeq (sPar 5 6 (eCallB mTake 0 (aCons (eC (.int 3)) (aNil))) (eCallB mTake 0 (aCons (eOp1 pLen (eVar 2)) (aNil)))) (sSeq (sSet 7 (eAddT (eOp2 pAdd (eSl pSl (eVar 2) (oNone) (oSome (eVar 6))) (eLst (lDisp (aCons (eCallB m__law_bad_offer 0 (aCons (eOp2 pIx (eVar 2) (eVar 6)) (aNil))) (aNil))))) (eSl pSl (eVar 2) (oSome (eOp2 pAdd (eVar 6) (eC (.int 1)))) (oNone)))) (sSeq (sSet 8 (eOp2 pIx (eLst (lDisp (aCons (eVar 7) (aCons (eVar 7) (aCons (eVar 7) (aCons (eLstT (lDisp (aNil))) (aCons (eAddT (eVar 2) (eOp2 pMul (eLst (lDisp (aCons (eOp2 pIx (eVar 2) (eC (.int 0))) (aNil)))) (eOp2 pSub (eC (.int 6)) (eOp1 pLen (eVar 2))))) (aCons (eC .non) (aCons (eC (.int 7)) (aCons (eC (.str "offers")) (aCons (eTup (aNil)) (aCons (eOp2 pIx (eVar 2) (eC (.int 0))) (aNil))))))))))))) (eCallB mTake 0 (aCons (eC (.int 10)) (aNil))))) (sSeq (sPar 9 10 (eIf (gBl (eOp2 pNe (eVar 3) (eTup (aNil)))) (eVar 3) (eTup (aCons (eC (.int 0)) (aNil)))) (eOp1 pLen (eVar 2))) (sSeq (sSet 11 (eOp2 pIx (eLst (lDisp (aCons (eLstT (lOp1 lList (eVar 9))) (aCons (eAddT (eVar 9) (eSl pSl (eVar 9) (oSome (eOp1 pNeg (eC (.int 1)))) (oNone))) (aCons (eAddT (eVar 9) (eTup (aCons (eVar 10) (aNil)))) (aCons (eAddT (eTup (aCons (eOp1 pNeg (eC (.int 1))) (aNil))) (eVar 9)) (aCons (eTup (aCons (eC (.int 1)) (aCons (eC (.int 0)) (aNil)))) (aCons (eAddT (eSl pSl (eVar 9) (oNone) (oSome (eOp1 pNeg (eC (.int 1))))) (eTup (aCons (eC (.bl true)) (aNil)))) (aCons (eC .non) (aCons (eOp2 pIx (eVar 9) (eC (.int 0))) (aCons (eTup (aCons (eC .non) (aNil))) (aNil)))))))))))) (eCallB mTake 0 (aCons (eC (.int 9)) (aNil))))) (sSeq (sSet 12 (eCall m__law_asked (aCons (eVar 1) (aCons (eIf (gBl (eOp2 pEq (eVar 5) (eC (.int 1)))) (eVar 2) (eVar 8)) (aCons (eIf (gBl (eOp2 pEq (eVar 5) (eC (.int 0)))) (eVar 3) (eVar 11)) (aCons (eVar 4) (aNil))))))) (sRetH (hAndE (eOp2 pEq (eOp2 pIx (eVar 12) (eC (.int 0))) (eOp2 pIx (eLst (lDisp (aCons (eC (.str "offers")) (aCons (eC (.str "chosen")) (aCons (eC (.str "offers")) (aNil)))))) (eVar 5))) (hV1 r__law_same (eOp2 pIx (eVar 12) (eC (.int 1))) (eOp2 pIx (eLst (lDisp (aCons (eVar 8) (aCons (eVar 11) (aCons (eVar 8) (aNil)))))) (eVar 5))))))))))
def m__law_refused : GF := fnT 13 pin0 b__law_refused
theorem fo__law_refused (T : Txt K w mg) (F__law_take : ∀ {B : Addr → Prop}, Fv P w K mg base (cc K B) 1 "_law_take" 2 mTake) (F__law_bad_offer : ∀ {B : Addr → Prop}, Fv P w K mg base (cc K B) 2 "_law_bad_offer" 2 m__law_bad_offer) (F__law_asked : ∀ {B : Addr → Prop}, Fv P w K mg base (cc K B) 11 "_law_asked" 4 m__law_asked) (F__law_very : ∀ {B : Addr → Prop}, FvV1 P w K mg base (cc K B) 14 "_law_very" r__law_same) : ∃ f fd, mg "_law_refused" = some (.ref f) ∧ FnOk P w K mg base (L2.CX P w) 15 f fd ["box", "made", "offers", "chosen", "named"] (SpV (cc K B) 5 m__law_refused) ∧ Fun K "_law_refused" "_law_refused" s__law_refused f fd := by
  obtain ⟨f, fd, hm, Fn⟩ := T.d__law_refused
  exact ⟨f, fd, hm, fnT_ok (c := cc K B) (N := ["box", "made", "offers", "chosen", "named", "first", "at", "bent", "bad", "some", "many", "wrong", "told"]) (pn := pin0) rfl Fn sc__law_refused rfl (by decide) (fun B cdv A outer s H E hr => vss_cons (vs_par (i := 5) (j := 6) rfl sc__law_refused.nd rfl rfl (by decide) rfl rfl rfl rfl (ve_callB' F__law_take hr (by decide) rfl (takes_of rfl rfl rfl rfl) (pv 0) (va_cons (ve_int) (va_nil))) (ve_callB' F__law_take hr (by decide) rfl (takes_of rfl rfl rfl rfl) (pv 0) (va_cons (ve_callB call_len2 (o_len rfl) rfl T.f_len b_len (ve_var (pv 2))) (va_nil))) rfl) (vss_cons (vs_set (i := 7) sc__law_refused.nd rfl (by first | exact .inl rfl | exact .inr rfl) rfl (ve_addT rfl (ve_op op_add4 (o_add rfl) (ve_slice sl_3 (o_sl rfl) (ve_var (pv 2)) (vo_none) (vo_some (ve_var (pv 6)))) (ve_lst (vl_disp (va_cons (ve_callB' F__law_bad_offer hr (by decide) rfl (takes_of rfl rfl rfl rfl) (pv 0) (va_cons (ve_ix (ix_4 (hu1 hr)) (o_ix rfl) (ve_var (pv 2)) (ve_var (pv 6))) (va_nil))) (va_nil))))) (ve_slice sl_3 (o_sl rfl) (ve_var (pv 2)) (vo_some (ve_op op_add4 (o_add rfl) (ve_var (pv 6)) (ve_int))) (vo_none)))) (vss_cons (vs_set (i := 8) sc__law_refused.nd rfl (by first | exact .inl rfl | exact .inr rfl) rfl (ve_ix (ix_4 (hu1 hr)) (o_ix rfl) (ve_lst (vl_disp (va_cons (ve_var (pv 7)) (va_cons (ve_var (pv 7)) (va_cons (ve_var (pv 7)) (va_cons (ve_lstT (vl_disp (va_nil))) (va_cons (ve_addT rfl (ve_var (pv 2)) (ve_op op_mul2 o_mul (ve_lst (vl_disp (va_cons (ve_ix (ix_4 (hu1 hr)) (o_ix rfl) (ve_var (pv 2)) (ve_int)) (va_nil)))) (ve_op op_sub o_sub (ve_int) (ve_callB call_len2 (o_len rfl) rfl T.f_len b_len (ve_var (pv 2)))))) (va_cons (ve_non) (va_cons (ve_int) (va_cons (ve_str) (va_cons (ve_tup (va_nil)) (va_cons (ve_ix (ix_4 (hu1 hr)) (o_ix rfl) (ve_var (pv 2)) (ve_int)) (va_nil))))))))))))) (ve_callB' F__law_take hr (by decide) rfl (takes_of rfl rfl rfl rfl) (pv 0) (va_cons (ve_int) (va_nil))))) (vss_cons (vs_par (i := 9) (j := 10) rfl sc__law_refused.nd rfl rfl (by decide) rfl rfl rfl rfl (ve_if (vt_cmp (op_ne2 (hu64 hr)) (o_ne rfl) rfl (ve_var (pv 3)) (ve_tup (va_nil))) (ve_var (pv 3)) (ve_tup (va_cons (ve_int) (va_nil)))) (ve_callB call_len2 (o_len rfl) rfl T.f_len b_len (ve_var (pv 2))) rfl) (vss_cons (vs_set (i := 11) sc__law_refused.nd rfl (by first | exact .inl rfl | exact .inr rfl) rfl (ve_ix (ix_4 (hu1 hr)) (o_ix rfl) (ve_lst (vl_disp (va_cons (ve_lstT (vl_callTy call_list2 (o_list rfl) rfl T.f_list b_list (ve_var (pv 9)))) (va_cons (ve_addT rfl (ve_var (pv 9)) (ve_slice sl_3 (o_sl rfl) (ve_var (pv 9)) (vo_some (ve_un un_neg o_neg (ve_int))) (vo_none))) (va_cons (ve_addT rfl (ve_var (pv 9)) (ve_tup (va_cons (ve_var (pv 10)) (va_nil)))) (va_cons (ve_addT rfl (ve_tup (va_cons (ve_un un_neg o_neg (ve_int)) (va_nil))) (ve_var (pv 9))) (va_cons (ve_tup (va_cons (ve_int) (va_cons (ve_int) (va_nil)))) (va_cons (ve_addT rfl (ve_slice sl_3 (o_sl rfl) (ve_var (pv 9)) (vo_none) (vo_some (ve_un un_neg o_neg (ve_int)))) (ve_tup (va_cons (ve_bl) (va_nil)))) (va_cons (ve_non) (va_cons (ve_ix (ix_4 (hu1 hr)) (o_ix rfl) (ve_var (pv 9)) (ve_int)) (va_cons (ve_tup (va_cons (ve_non) (va_nil))) (va_nil)))))))))))) (ve_callB' F__law_take hr (by decide) rfl (takes_of rfl rfl rfl rfl) (pv 0) (va_cons (ve_int) (va_nil))))) (vss_cons (vs_set (i := 12) sc__law_refused.nd rfl (by first | exact .inl rfl | exact .inr rfl) rfl (ve_call F__law_asked hr (by decide) rfl (takes_of rfl rfl rfl rfl) (va_cons (ve_var (pv 1)) (va_cons (ve_if (vt_cmp (op_eq2 (hu64 hr)) (o_eq rfl) rfl (ve_var (pv 5)) (ve_int)) (ve_var (pv 2)) (ve_var (pv 8))) (va_cons (ve_if (vt_cmp (op_eq2 (hu64 hr)) (o_eq rfl) rfl (ve_var (pv 5)) (ve_int)) (ve_var (pv 3)) (ve_var (pv 11))) (va_cons (ve_var (pv 4)) (va_nil))))))) (vss_one (vs_retH (ve_hand (ve_cmp (op_eq2 (hu64 hr)) (o_eq rfl) rfl (ve_ix (ix_4 (hu1 hr)) (o_ix rfl) (ve_var (pv 12)) (ve_int)) (ve_ix (ix_4 (hu1 hr)) (o_ix rfl) (ve_lst (vl_disp (va_cons (ve_str) (va_cons (ve_str) (va_cons (ve_str) (va_nil)))))) (ve_var (pv 5)))) (ve_hand1 (ve_very1 F__law_very hr (by decide) rfl (takes_of rfl rfl rfl rfl) (ve_ix (ix_4 (hu1 hr)) (o_ix rfl) (ve_var (pv 12)) (ve_int)) (ve_ix (ix_4 (hu1 hr)) (o_ix rfl) (ve_lst (vl_disp (va_cons (ve_var (pv 8)) (va_cons (ve_var (pv 11)) (va_cons (ve_var (pv 8)) (va_nil)))))) (ve_var (pv 5)))))))))))))), Fn⟩
theorem fv__law_refused (T : Txt K w mg) (F__law_take : ∀ {B : Addr → Prop}, Fv P w K mg base (cc K B) 1 "_law_take" 2 mTake) (F__law_bad_offer : ∀ {B : Addr → Prop}, Fv P w K mg base (cc K B) 2 "_law_bad_offer" 2 m__law_bad_offer) (F__law_asked : ∀ {B : Addr → Prop}, Fv P w K mg base (cc K B) 11 "_law_asked" 4 m__law_asked) (F__law_very : ∀ {B : Addr → Prop}, FvV1 P w K mg base (cc K B) 14 "_law_very" r__law_same) : Fv P w K mg base (cc K B) 15 "_law_refused" 5 m__law_refused := by
  obtain ⟨f, fd, hm, ok, Fn⟩ := fo__law_refused (P := P) (base := base) (B := B) T F__law_take F__law_bad_offer F__law_asked F__law_very
  exact ⟨f, fd, ["box", "made", "offers", "chosen", "named"], rfl, hm, ok, Fn.kp, Fn.binds fun _ _ _ _ _ _ us hl => match us, hl with | [_, _, _, _, _], _ => rfl⟩
theorem sc__law_right : FnScope ["box", "named", "states", "plant", "lot", "rows", "chosen"] ["box", "named"] (defScope s__law_right) := ⟨rfl, rfl, rfl, by decide +kernel, rfl, by decide +kernel, by decide +kernel⟩
def b__law_right : GS := sSeq (sSet 2 (eOp2 pIx (eLst (lDisp (aCons (eOp2 pAdd (eC (.int 1)) (eCallB mTake 0 (aCons (eC (.int 24)) (aNil)))) (aCons (eC (.int 24)) (aCons (eOp2 pAdd (eC (.int 9)) (eCallB mTake 0 (aCons (eC (.int 16)) (aNil)))) (aCons (eC (.int 16)) (aNil))))))) (eCallB mTake 0 (aCons (eC (.int 4)) (aNil))))) (sSeq (sPar 3 4 (eCallB m__law_plant 0 (aCons (eVar 2) (aCons (eOp2 pAdd (eC (.int 1)) (eCallB mTake 0 (aCons (eC (.int 6)) (aNil)))) (aNil)))) (eCallB m__law_offers 0 (aCons (eVar 2) (aNil)))) (sSeq (sSet 5 (eLst (lDisp (aCons (eCallB m__law_chosen 0 (aCons (eOp2 pIx (eVar 4) (eC (.int 0))) (aCons (eOp2 pIx (eVar 4) (eC (.int 1))) (aNil)))) (aCons (eCallB m__law_chosen 0 (aCons (eOp2 pIx (eVar 4) (eC (.int 0))) (aCons (eOp2 pIx (eVar 4) (eC (.int 1))) (aNil)))) (aNil)))))) (sSeq (sFor (gN 6) (iSeq (eLst (lDisp (aCons (eOp2 pIx (eVar 5) (eC (.int 0))) (aCons (eOp2 pIx (eVar 5) (eC (.int 1))) (aCons (eOp2 pIx (eVar 5) (eC (.int 0))) (aNil))))))) (sSeq (sIf (gNot (gVal (eCall m__law_asked_right (aCons (eVar 3) (aCons (eOp2 pIx (eVar 4) (eC (.int 0))) (aCons (eVar 6) (aCons (eVar 1) (aNil)))))))) (sRet (eC (.bl false))) (sNil)) (sSet 1 (eNot (eVar 1))))) (sRet (eCallB m__law_refused 0 (aCons (eNew 7 m_Plant (aCons (eOp2 pIx (eVar 3) (eC (.int 0))) (aCons (eOp2 pIx (eVar 3) (eC (.int 1))) (aCons (eOp2 pIx (eVar 3) (eC (.int 2))) (aNil))))) (aCons (eLst (lOp1 lList (eOp2 pIx (eVar 4) (eC (.int 0))))) (aCons (eOp2 pIx (eVar 5) (eC (.int 1))) (aCons (eVar 1) (aNil))))))))))
def m__law_right : GF := fnV 7 pin0 b__law_right
theorem fo__law_right (T : Txt K w mg) (F__law_take : Fv P w K mg base (cc K B) 1 "_law_take" 2 mTake) (F__law_plant : Fv P w K mg base (cc K B) 2 "_law_plant" 3 m__law_plant) (F__law_offers : Fv P w K mg base (cc K B) 3 "_law_offers" 2 m__law_offers) (F__law_chosen : Fv P w K mg base (cc K B) 2 "_law_chosen" 3 m__law_chosen) (F__law_asked_right : FvG P w K mg base (cc K B) 15 "_law_asked_right" 4 m__law_asked_right) (F__law_refused : Fv P w K mg base (cc K B) 15 "_law_refused" 5 m__law_refused) (N_Plant : Nv P w K mg base (cc K B) 7 "Plant" 7 3 m_Plant) : ∃ f fd, mg "_law_right" = some (.ref f) ∧ FnOkG P w K mg base (L2.CX P w) 16 f fd ["box", "named"] (SpV (cc K B) 2 m__law_right) ∧ Fun K "_law_right" "_law_right" s__law_right f fd := by
  obtain ⟨f, fd, hm, Fn⟩ := T.d__law_right
  exact ⟨f, fd, hm, fn_okG (c := cc K B) (N := ["box", "named", "states", "plant", "lot", "rows", "chosen"]) (pn := pin0) rfl Fn sc__law_right rfl (by decide) (fun cdv A outer s H E hr hG => vss_cons (vs_set (i := 2) sc__law_right.nd rfl (by first | exact .inl rfl | exact .inr rfl) rfl (ve_ix (ix_4 (hu1 hr)) (o_ix rfl) (ve_lst (vl_disp (va_cons (ve_op op_add4 (o_add rfl) (ve_int) (ve_callB' F__law_take hr (by decide) rfl (takes_of rfl rfl rfl rfl) (pv 0) (va_cons (ve_int) (va_nil)))) (va_cons (ve_int) (va_cons (ve_op op_add4 (o_add rfl) (ve_int) (ve_callB' F__law_take hr (by decide) rfl (takes_of rfl rfl rfl rfl) (pv 0) (va_cons (ve_int) (va_nil)))) (va_cons (ve_int) (va_nil))))))) (ve_callB' F__law_take hr (by decide) rfl (takes_of rfl rfl rfl rfl) (pv 0) (va_cons (ve_int) (va_nil))))) (vss_cons (vs_par (i := 3) (j := 4) rfl sc__law_right.nd rfl rfl (by decide) rfl rfl rfl rfl (ve_callB' F__law_plant hr (by decide) rfl (takes_of rfl rfl rfl rfl) (pv 0) (va_cons (ve_var (pv 2)) (va_cons (ve_op op_add4 (o_add rfl) (ve_int) (ve_callB' F__law_take hr (by decide) rfl (takes_of rfl rfl rfl rfl) (pv 0) (va_cons (ve_int) (va_nil)))) (va_nil)))) (ve_callB' F__law_offers hr (by decide) rfl (takes_of rfl rfl rfl rfl) (pv 0) (va_cons (ve_var (pv 2)) (va_nil))) rfl) (vss_cons (vs_set (i := 5) sc__law_right.nd rfl (by first | exact .inl rfl | exact .inr rfl) rfl (ve_lst (vl_disp (va_cons (ve_callB' F__law_chosen hr (by decide) rfl (takes_of rfl rfl rfl rfl) (pv 0) (va_cons (ve_ix (ix_4 (hu1 hr)) (o_ix rfl) (ve_var (pv 4)) (ve_int)) (va_cons (ve_ix (ix_4 (hu1 hr)) (o_ix rfl) (ve_var (pv 4)) (ve_int)) (va_nil)))) (va_cons (ve_callB' F__law_chosen hr (by decide) rfl (takes_of rfl rfl rfl rfl) (pv 0) (va_cons (ve_ix (ix_4 (hu1 hr)) (o_ix rfl) (ve_var (pv 4)) (ve_int)) (va_cons (ve_ix (ix_4 (hu1 hr)) (o_ix rfl) (ve_var (pv 4)) (ve_int)) (va_nil)))) (va_nil)))))) (vss_cons (vs_for (passes_of rfl) rfl (vi_seq rfl (ve_lst (vl_disp (va_cons (ve_ix (ix_4 (hu1 hr)) (o_ix rfl) (ve_var (pv 5)) (ve_int)) (va_cons (ve_ix (ix_4 (hu1 hr)) (o_ix rfl) (ve_var (pv 5)) (ve_int)) (va_cons (ve_ix (ix_4 (hu1 hr)) (o_ix rfl) (ve_var (pv 5)) (ve_int)) (va_nil))))))) (pg_name (i := 6) sc__law_right.nd rfl (by first | exact .inl rfl | exact .inr rfl)) (tg_name 6) (by decide) (vss_cons (vs_if (vt_not (vt_val rfl (ve_callG F__law_asked_right hr hG (by decide) rfl (takes_of rfl rfl rfl rfl) (va_cons (ve_var (pv 3)) (va_cons (ve_ix (ix_4 (hu1 hr)) (o_ix rfl) (ve_var (pv 4)) (ve_int)) (va_cons (ve_var (pv 6)) (va_cons (ve_var (pv 1)) (va_nil)))))))) (vss_one (vs_ret (ve_bl))) (vss_nil)) (vss_one (vs_set (i := 1) sc__law_right.nd rfl (by first | exact .inl rfl | exact .inr rfl) rfl (ve_not (ve_var (pv 1))))))) (vss_one (vs_ret (ve_callB' F__law_refused hr (by decide) rfl (takes_of rfl rfl rfl rfl) (pv 0) (va_cons (ve_new N_Plant hr (by decide) rfl (takes_of rfl rfl rfl rfl) (va_cons (ve_ix (ix_4 (hu1 hr)) (o_ix rfl) (ve_var (pv 3)) (ve_int)) (va_cons (ve_ix (ix_4 (hu1 hr)) (o_ix rfl) (ve_var (pv 3)) (ve_int)) (va_cons (ve_ix (ix_4 (hu1 hr)) (o_ix rfl) (ve_var (pv 3)) (ve_int)) (va_nil))))) (va_cons (ve_lst (vl_callTy call_list2 (o_list rfl) rfl T.f_list b_list (ve_ix (ix_4 (hu1 hr)) (o_ix rfl) (ve_var (pv 4)) (ve_int)))) (va_cons (ve_ix (ix_4 (hu1 hr)) (o_ix rfl) (ve_var (pv 5)) (ve_int)) (va_cons (ve_var (pv 1)) (va_nil)))))))))))), Fn⟩
theorem fv__law_right (T : Txt K w mg) (F__law_take : Fv P w K mg base (cc K B) 1 "_law_take" 2 mTake) (F__law_plant : Fv P w K mg base (cc K B) 2 "_law_plant" 3 m__law_plant) (F__law_offers : Fv P w K mg base (cc K B) 3 "_law_offers" 2 m__law_offers) (F__law_chosen : Fv P w K mg base (cc K B) 2 "_law_chosen" 3 m__law_chosen) (F__law_asked_right : FvG P w K mg base (cc K B) 15 "_law_asked_right" 4 m__law_asked_right) (F__law_refused : Fv P w K mg base (cc K B) 15 "_law_refused" 5 m__law_refused) (N_Plant : Nv P w K mg base (cc K B) 7 "Plant" 7 3 m_Plant) : FvG P w K mg base (cc K B) 16 "_law_right" 2 m__law_right := by
  obtain ⟨f, fd, hm, ok, Fn⟩ := fo__law_right (P := P) (base := base) (B := B) T F__law_take F__law_plant F__law_offers F__law_chosen F__law_asked_right F__law_refused N_Plant
  exact ⟨f, fd, ["box", "named"], rfl, hm, ok, Fn.kp, Fn.binds fun _ _ _ _ _ _ us hl => match us, hl with | [_, _], _ => rfl⟩
theorem sc_law : FnScope ["script", "k", "box"] ["script"] (defScope s_law) := ⟨rfl, rfl, rfl, by decide +kernel, rfl, by decide +kernel, by decide +kernel⟩
def b_law : GS := sSeq (sFor (gN 1) (iRng (eOp2 pMax2 (eC (.int 1)) (eOp2 pMin2 (eC (.int 3)) (eOp1 pLen (eVar 0))))) (sSeq (sBox 2 (lCall m__law_box (aCons (eCall m__law_cell (aCons (eVar 0) (aCons (eVar 1) (aNil)))) (aNil)))) (sIf (gNot (gVal (eCallB m__law_right 2 (aCons (eOp2 pEq (eCallB mTake 2 (aCons (eC (.int 2)) (aNil))) (eC (.int 0))) (aNil))))) (sRet (eC (.bl false))) (sNil)))) (sRet (eC (.bl true)))
def m_law : GF := fnV 3 noPin b_law
theorem fo_law (T : Txt K w mg) (F__law_box : FvL P w K mg base (cc K B) 1 "_law_box" 1 m__law_box) (F__law_cell : Fv P w K mg base (cc K B) 1 "_law_cell" 2 m__law_cell) (F__law_right : FvG P w K mg base (cc K B) 16 "_law_right" 2 m__law_right) (F__law_take : Fv P w K mg base (cc K B) 1 "_law_take" 2 mTake) : ∃ f fd, mg "law" = some (.ref f) ∧ FnOkG P w K mg base (L2.CX P w) 17 f fd ["script"] (SpV (cc K B) 1 m_law) ∧ Fun K "law" "law" s_law f fd := by
  obtain ⟨f, fd, hm, Fn⟩ := T.d_law
  exact ⟨f, fd, hm, fn_okG (c := cc K B) (N := ["script", "k", "box"]) (pn := noPin) rfl Fn sc_law rfl (by decide) (fun cdv A outer s H E hr hG => vss_cons (vs_for (passes_of rfl) rfl (vi_rng rfl T.f_range (ve_callB2 (call_max2 rfl) o_max2 rfl T.f_max b_max (ve_int) (ve_callB2 (call_min2 rfl) o_min2 rfl T.f_min b_min (ve_int) (ve_callB call_len2 (o_len rfl) rfl T.f_len b_len (ve_var (pv 0)))))) (pg_name (i := 1) sc_law.nd rfl (by first | exact .inl rfl | exact .inr rfl)) (tg_name 1) (by decide) (vss_cons (vs_box (i := 2) sc_law.nd rfl (by first | exact .inl rfl | exact .inr rfl) rfl (vl_callF F__law_box hr (by decide) rfl (takes_of rfl rfl rfl rfl) (va_cons (ve_call F__law_cell hr (by decide) rfl (takes_of rfl rfl rfl rfl) (va_cons (ve_var (pv 0)) (va_cons (ve_var (pv 1)) (va_nil)))) (va_nil)))) (vss_one (vs_if (vt_not (vt_val rfl (ve_callBG F__law_right hr hG (by decide) rfl (takes_of rfl rfl rfl rfl) (pv 2) (va_cons (ve_cmp (op_eq2 (hu64 hr)) (o_eq rfl) rfl (ve_callB' F__law_take hr (by decide) rfl (takes_of rfl rfl rfl rfl) (pv 2) (va_cons (ve_int) (va_nil))) (ve_int)) (va_nil))))) (vss_one (vs_ret (ve_bl))) (vss_nil))))) (vss_one (vs_ret (ve_bl)))), Fn⟩
theorem fv_law (T : Txt K w mg) (F__law_box : FvL P w K mg base (cc K B) 1 "_law_box" 1 m__law_box) (F__law_cell : Fv P w K mg base (cc K B) 1 "_law_cell" 2 m__law_cell) (F__law_right : FvG P w K mg base (cc K B) 16 "_law_right" 2 m__law_right) (F__law_take : Fv P w K mg base (cc K B) 1 "_law_take" 2 mTake) : FvG P w K mg base (cc K B) 17 "law" 1 m_law := by
  obtain ⟨f, fd, hm, ok, Fn⟩ := fo_law (P := P) (base := base) (B := B) T F__law_box F__law_cell F__law_right F__law_take
  exact ⟨f, fd, ["script"], rfl, hm, ok, Fn.kp, Fn.binds fun _ _ _ _ _ _ us hl => match us, hl with | [_], _ => rfl⟩
end
def fa : List He.Fa := [.free "abs", .free "all", .free "bool", .free "int", .free "isinstance", .free "len", .free "list", .free "max", .free "min", .free "range", .free "repr", .free "set", .free "sorted", .free "str", .free "sum", .free "tuple", .int "MOST_HANDS" 6, .int "MOST_LOOK" 7, .int "MOST_PLANT" 24, .int "MOST_OFFERS" 5, .int "MOST_PRICE" 20, .int "MOST_SHOWN" 3, .glo "is_whole", .glo "is_between", .glo "is_list", .glo "is_list_of", .glo "is_tuple_of", .glo "are_between", .glo "is_ascending", .glo "is_states", .glo "is_some_states", .glo "is_looks", .glo "is_plant_steps", .glo "is_offer", .glo "check_offers", .glo "bought", .glo "bought_plant", .glo "_law_cell", .glo "_law_box", .glo "_law_take", .glo "_law_same", .glo "_law_very", .glo "_law_plant", .glo "_law_codes", .glo "_law_offers", .glo "_law_chosen", .glo "_law_due", .glo "_law_asked", .glo "_law_frozen", .glo "_law_is_plant", .glo "_law_asked_right", .glo "_law_bad_offer", .glo "_law_refused", .glo "_law_right", .glo "law", .glo "WireError", .glo "InvalidActs", .glo "InvalidChosen", .glo "InvalidLooks", .glo "InvalidOffers", .glo "InvalidSteps", .glo "TooMany", .glo "Plant"]
def fnD : List He.DefD := [
  ⟨("is_whole", none), "is_whole", "is_whole", defArgs s_is_whole, defBody s_is_whole, defScope s_is_whole, [], []⟩,
  ⟨("is_between", none), "is_between", "is_between", defArgs s_is_between, defBody s_is_between, defScope s_is_between, [], []⟩,
  ⟨("is_list", none), "is_list", "is_list", defArgs s_is_list, defBody s_is_list, defScope s_is_list, [], []⟩,
  ⟨("is_list_of", none), "is_list_of", "is_list_of", defArgs s_is_list_of, defBody s_is_list_of, defScope s_is_list_of, [], []⟩,
  ⟨("is_tuple_of", none), "is_tuple_of", "is_tuple_of", defArgs s_is_tuple_of, defBody s_is_tuple_of, defScope s_is_tuple_of, [], []⟩,
  ⟨("are_between", none), "are_between", "are_between", defArgs s_are_between, defBody s_are_between, defScope s_are_between, [], []⟩,
  ⟨("is_ascending", none), "is_ascending", "is_ascending", defArgs s_is_ascending, defBody s_is_ascending, defScope s_is_ascending, [], []⟩,
  ⟨("is_states", none), "is_states", "is_states", defArgs s_is_states, defBody s_is_states, defScope s_is_states, [], []⟩,
  ⟨("is_some_states", none), "is_some_states", "is_some_states", defArgs s_is_some_states, defBody s_is_some_states, defScope s_is_some_states, [], []⟩,
  ⟨("is_looks", none), "is_looks", "is_looks", defArgs s_is_looks, defBody s_is_looks, defScope s_is_looks, [], []⟩,
  ⟨("is_plant_steps", none), "is_plant_steps", "is_plant_steps", defArgs s_is_plant_steps, defBody s_is_plant_steps, defScope s_is_plant_steps, [], []⟩,
  ⟨("is_offer", none), "is_offer", "is_offer", defArgs s_is_offer, defBody s_is_offer, defScope s_is_offer, [], []⟩,
  ⟨("check_offers", none), "check_offers", "check_offers", defArgs s_check_offers, defBody s_check_offers, defScope s_check_offers, [], []⟩,
  ⟨("bought", none), "bought", "bought", defArgs s_bought, defBody s_bought, defScope s_bought, [], []⟩,
  ⟨("bought_plant", none), "bought_plant", "bought_plant", defArgs s_bought_plant, defBody s_bought_plant, defScope s_bought_plant, [], []⟩,
  ⟨("_law_cell", none), "_law_cell", "_law_cell", defArgs s__law_cell, defBody s__law_cell, defScope s__law_cell, [], []⟩,
  ⟨("_law_box", none), "_law_box", "_law_box", defArgs s__law_box, defBody s__law_box, defScope s__law_box, [], []⟩,
  ⟨("_law_take", none), "_law_take", "_law_take", defArgs s__law_take, defBody s__law_take, defScope s__law_take, [], []⟩,
  ⟨("_law_same", none), "_law_same", "_law_same", defArgs s__law_same, defBody s__law_same, defScope s__law_same, [], []⟩,
  ⟨("_law_very", none), "_law_very", "_law_very", defArgs s__law_very, defBody s__law_very, defScope s__law_very, [], []⟩,
  ⟨("_law_plant", none), "_law_plant", "_law_plant", defArgs s__law_plant, defBody s__law_plant, defScope s__law_plant, [], []⟩,
  ⟨("_law_codes", none), "_law_codes", "_law_codes", defArgs s__law_codes, defBody s__law_codes, defScope s__law_codes, [], []⟩,
  ⟨("_law_offers", none), "_law_offers", "_law_offers", defArgs s__law_offers, defBody s__law_offers, defScope s__law_offers, [], []⟩,
  ⟨("_law_chosen", none), "_law_chosen", "_law_chosen", defArgs s__law_chosen, defBody s__law_chosen, defScope s__law_chosen, [], []⟩,
  ⟨("_law_due", none), "_law_due", "_law_due", defArgs s__law_due, defBody s__law_due, defScope s__law_due, [], []⟩,
  ⟨("_law_asked", none), "_law_asked", "_law_asked", defArgs s__law_asked, defBody s__law_asked, defScope s__law_asked, [], []⟩,
  ⟨("_law_frozen", none), "_law_frozen", "_law_frozen", defArgs s__law_frozen, defBody s__law_frozen, defScope s__law_frozen, [], []⟩,
  ⟨("_law_is_plant", none), "_law_is_plant", "_law_is_plant", defArgs s__law_is_plant, defBody s__law_is_plant, defScope s__law_is_plant, [], []⟩,
  ⟨("_law_asked_right", none), "_law_asked_right", "_law_asked_right", defArgs s__law_asked_right, defBody s__law_asked_right, defScope s__law_asked_right, [], []⟩,
  ⟨("_law_bad_offer", none), "_law_bad_offer", "_law_bad_offer", defArgs s__law_bad_offer, defBody s__law_bad_offer, defScope s__law_bad_offer, [], []⟩,
  ⟨("_law_refused", none), "_law_refused", "_law_refused", defArgs s__law_refused, defBody s__law_refused, defScope s__law_refused, [], []⟩,
  ⟨("_law_right", none), "_law_right", "_law_right", defArgs s__law_right, defBody s__law_right, defScope s__law_right, [], []⟩,
  ⟨("law", none), "law", "law", defArgs s_law, defBody s_law, defScope s_law, [], []⟩,
  ⟨("InvalidActs", some "__init__"), "__init__", "InvalidActs.__init__", defArgs s_InvalidActs, defBody s_InvalidActs, defScope s_InvalidActs, [], []⟩,
  ⟨("InvalidChosen", some "__init__"), "__init__", "InvalidChosen.__init__", defArgs s_InvalidChosen, defBody s_InvalidChosen, defScope s_InvalidChosen, [], []⟩,
  ⟨("InvalidLooks", some "__init__"), "__init__", "InvalidLooks.__init__", defArgs s_InvalidLooks, defBody s_InvalidLooks, defScope s_InvalidLooks, [], []⟩,
  ⟨("InvalidOffers", some "__init__"), "__init__", "InvalidOffers.__init__", defArgs s_InvalidOffers, defBody s_InvalidOffers, defScope s_InvalidOffers, [], []⟩,
  ⟨("InvalidSteps", some "__init__"), "__init__", "InvalidSteps.__init__", defArgs s_InvalidSteps, defBody s_InvalidSteps, defScope s_InvalidSteps, [], []⟩,
  ⟨("TooMany", some "__init__"), "__init__", "TooMany.__init__", defArgs s_TooMany, defBody s_TooMany, defScope s_TooMany, [], []⟩,
  ⟨("Plant", some "__init__"), "__init__", "Plant.__init__", defArgs si_Plant, defBody si_Plant, defScope si_Plant, [], []⟩,
  ⟨("Plant", some "__eq__"), "__eq__", "Plant.__eq__", defArgs se_Plant, defBody se_Plant, defScope se_Plant, [], []⟩]
def tsD : List He.Tab := []
def exB (K : PySem.W.Frag) : Bool := excB K "InvalidActs" "given" && (excB K "InvalidChosen" "given" && (excB K "InvalidLooks" "given" && (excB K "InvalidOffers" "given" && (excB K "InvalidSteps" "given" && (excB K "TooMany" "count" && (decide (PySem.W.exmOne K (.ref (He.ga K "InvalidActs")) (.ref (He.ga K "WireError")) = some true) && (decide (PySem.W.exmOne K (.ref (He.ga K "InvalidActs")) (.ref (He.ga K "InvalidActs")) = some true) && (decide (PySem.W.exmOne K (.ref (He.ga K "InvalidActs")) (.ref (He.ga K "InvalidChosen")) = some false) && (decide (PySem.W.exmOne K (.ref (He.ga K "InvalidActs")) (.ref (He.ga K "InvalidLooks")) = some false) && (decide (PySem.W.exmOne K (.ref (He.ga K "InvalidActs")) (.ref (He.ga K "InvalidOffers")) = some false) && (decide (PySem.W.exmOne K (.ref (He.ga K "InvalidActs")) (.ref (He.ga K "InvalidSteps")) = some false) && (decide (PySem.W.exmOne K (.ref (He.ga K "InvalidActs")) (.ref (He.ga K "TooMany")) = some false) && (decide (PySem.W.exmOne K (.ref (He.ga K "InvalidChosen")) (.ref (He.ga K "WireError")) = some true) && (decide (PySem.W.exmOne K (.ref (He.ga K "InvalidChosen")) (.ref (He.ga K "InvalidActs")) = some false) && (decide (PySem.W.exmOne K (.ref (He.ga K "InvalidChosen")) (.ref (He.ga K "InvalidChosen")) = some true) && (decide (PySem.W.exmOne K (.ref (He.ga K "InvalidChosen")) (.ref (He.ga K "InvalidLooks")) = some false) && (decide (PySem.W.exmOne K (.ref (He.ga K "InvalidChosen")) (.ref (He.ga K "InvalidOffers")) = some false) && (decide (PySem.W.exmOne K (.ref (He.ga K "InvalidChosen")) (.ref (He.ga K "InvalidSteps")) = some false) && (decide (PySem.W.exmOne K (.ref (He.ga K "InvalidChosen")) (.ref (He.ga K "TooMany")) = some false) && (decide (PySem.W.exmOne K (.ref (He.ga K "InvalidLooks")) (.ref (He.ga K "WireError")) = some true) && (decide (PySem.W.exmOne K (.ref (He.ga K "InvalidLooks")) (.ref (He.ga K "InvalidActs")) = some false) && (decide (PySem.W.exmOne K (.ref (He.ga K "InvalidLooks")) (.ref (He.ga K "InvalidChosen")) = some false) && (decide (PySem.W.exmOne K (.ref (He.ga K "InvalidLooks")) (.ref (He.ga K "InvalidLooks")) = some true) && (decide (PySem.W.exmOne K (.ref (He.ga K "InvalidLooks")) (.ref (He.ga K "InvalidOffers")) = some false) && (decide (PySem.W.exmOne K (.ref (He.ga K "InvalidLooks")) (.ref (He.ga K "InvalidSteps")) = some false) && (decide (PySem.W.exmOne K (.ref (He.ga K "InvalidLooks")) (.ref (He.ga K "TooMany")) = some false) && (decide (PySem.W.exmOne K (.ref (He.ga K "InvalidOffers")) (.ref (He.ga K "WireError")) = some true) && (decide (PySem.W.exmOne K (.ref (He.ga K "InvalidOffers")) (.ref (He.ga K "InvalidActs")) = some false) && (decide (PySem.W.exmOne K (.ref (He.ga K "InvalidOffers")) (.ref (He.ga K "InvalidChosen")) = some false) && (decide (PySem.W.exmOne K (.ref (He.ga K "InvalidOffers")) (.ref (He.ga K "InvalidLooks")) = some false) && (decide (PySem.W.exmOne K (.ref (He.ga K "InvalidOffers")) (.ref (He.ga K "InvalidOffers")) = some true) && (decide (PySem.W.exmOne K (.ref (He.ga K "InvalidOffers")) (.ref (He.ga K "InvalidSteps")) = some false) && (decide (PySem.W.exmOne K (.ref (He.ga K "InvalidOffers")) (.ref (He.ga K "TooMany")) = some false) && (decide (PySem.W.exmOne K (.ref (He.ga K "InvalidSteps")) (.ref (He.ga K "WireError")) = some true) && (decide (PySem.W.exmOne K (.ref (He.ga K "InvalidSteps")) (.ref (He.ga K "InvalidActs")) = some false) && (decide (PySem.W.exmOne K (.ref (He.ga K "InvalidSteps")) (.ref (He.ga K "InvalidChosen")) = some false) && (decide (PySem.W.exmOne K (.ref (He.ga K "InvalidSteps")) (.ref (He.ga K "InvalidLooks")) = some false) && (decide (PySem.W.exmOne K (.ref (He.ga K "InvalidSteps")) (.ref (He.ga K "InvalidOffers")) = some false) && (decide (PySem.W.exmOne K (.ref (He.ga K "InvalidSteps")) (.ref (He.ga K "InvalidSteps")) = some true) && (decide (PySem.W.exmOne K (.ref (He.ga K "InvalidSteps")) (.ref (He.ga K "TooMany")) = some false) && (decide (PySem.W.exmOne K (.ref (He.ga K "TooMany")) (.ref (He.ga K "WireError")) = some true) && (decide (PySem.W.exmOne K (.ref (He.ga K "TooMany")) (.ref (He.ga K "InvalidActs")) = some false) && (decide (PySem.W.exmOne K (.ref (He.ga K "TooMany")) (.ref (He.ga K "InvalidChosen")) = some false) && (decide (PySem.W.exmOne K (.ref (He.ga K "TooMany")) (.ref (He.ga K "InvalidLooks")) = some false) && (decide (PySem.W.exmOne K (.ref (He.ga K "TooMany")) (.ref (He.ga K "InvalidOffers")) = some false) && (decide (PySem.W.exmOne K (.ref (He.ga K "TooMany")) (.ref (He.ga K "InvalidSteps")) = some false) && (decide (PySem.W.exmOne K (.ref (He.ga K "TooMany")) (.ref (He.ga K "TooMany")) = some true) && (clsB K "Plant" flds_Plant && (eqCB K "Plant")))))))))))))))))))))))))))))))))))))))))))))))))
theorem txt_of {K : PySem.W.Frag} {w : World} {h : Heap} {mg : Str → Option Value} (X : K.In h) (G : h.Ns mainGlobals mg) (c : He.SaysT fa fnD tsD w K) (e : exB K = true) : Txt K w mg := by
  have fx : ∀ i {f : He.Fa}, fa[i]? = some f → f.ok K = true := fun i f q => c.d.fact i q
  obtain ⟨e0, e⟩ := Bool.and_eq_true_iff.mp e
  obtain ⟨e1, e⟩ := Bool.and_eq_true_iff.mp e
  obtain ⟨e2, e⟩ := Bool.and_eq_true_iff.mp e
  obtain ⟨e3, e⟩ := Bool.and_eq_true_iff.mp e
  obtain ⟨e4, e⟩ := Bool.and_eq_true_iff.mp e
  obtain ⟨e5, e⟩ := Bool.and_eq_true_iff.mp e
  obtain ⟨e6, e⟩ := Bool.and_eq_true_iff.mp e
  obtain ⟨e7, e⟩ := Bool.and_eq_true_iff.mp e
  obtain ⟨e8, e⟩ := Bool.and_eq_true_iff.mp e
  obtain ⟨e9, e⟩ := Bool.and_eq_true_iff.mp e
  obtain ⟨e10, e⟩ := Bool.and_eq_true_iff.mp e
  obtain ⟨e11, e⟩ := Bool.and_eq_true_iff.mp e
  obtain ⟨e12, e⟩ := Bool.and_eq_true_iff.mp e
  obtain ⟨e13, e⟩ := Bool.and_eq_true_iff.mp e
  obtain ⟨e14, e⟩ := Bool.and_eq_true_iff.mp e
  obtain ⟨e15, e⟩ := Bool.and_eq_true_iff.mp e
  obtain ⟨e16, e⟩ := Bool.and_eq_true_iff.mp e
  obtain ⟨e17, e⟩ := Bool.and_eq_true_iff.mp e
  obtain ⟨e18, e⟩ := Bool.and_eq_true_iff.mp e
  obtain ⟨e19, e⟩ := Bool.and_eq_true_iff.mp e
  obtain ⟨e20, e⟩ := Bool.and_eq_true_iff.mp e
  obtain ⟨e21, e⟩ := Bool.and_eq_true_iff.mp e
  obtain ⟨e22, e⟩ := Bool.and_eq_true_iff.mp e
  obtain ⟨e23, e⟩ := Bool.and_eq_true_iff.mp e
  obtain ⟨e24, e⟩ := Bool.and_eq_true_iff.mp e
  obtain ⟨e25, e⟩ := Bool.and_eq_true_iff.mp e
  obtain ⟨e26, e⟩ := Bool.and_eq_true_iff.mp e
  obtain ⟨e27, e⟩ := Bool.and_eq_true_iff.mp e
  obtain ⟨e28, e⟩ := Bool.and_eq_true_iff.mp e
  obtain ⟨e29, e⟩ := Bool.and_eq_true_iff.mp e
  obtain ⟨e30, e⟩ := Bool.and_eq_true_iff.mp e
  obtain ⟨e31, e⟩ := Bool.and_eq_true_iff.mp e
  obtain ⟨e32, e⟩ := Bool.and_eq_true_iff.mp e
  obtain ⟨e33, e⟩ := Bool.and_eq_true_iff.mp e
  obtain ⟨e34, e⟩ := Bool.and_eq_true_iff.mp e
  obtain ⟨e35, e⟩ := Bool.and_eq_true_iff.mp e
  obtain ⟨e36, e⟩ := Bool.and_eq_true_iff.mp e
  obtain ⟨e37, e⟩ := Bool.and_eq_true_iff.mp e
  obtain ⟨e38, e⟩ := Bool.and_eq_true_iff.mp e
  obtain ⟨e39, e⟩ := Bool.and_eq_true_iff.mp e
  obtain ⟨e40, e⟩ := Bool.and_eq_true_iff.mp e
  obtain ⟨e41, e⟩ := Bool.and_eq_true_iff.mp e
  obtain ⟨e42, e⟩ := Bool.and_eq_true_iff.mp e
  obtain ⟨e43, e⟩ := Bool.and_eq_true_iff.mp e
  obtain ⟨e44, e⟩ := Bool.and_eq_true_iff.mp e
  obtain ⟨e45, e⟩ := Bool.and_eq_true_iff.mp e
  obtain ⟨e46, e⟩ := Bool.and_eq_true_iff.mp e
  obtain ⟨e47, e⟩ := Bool.and_eq_true_iff.mp e
  obtain ⟨e48, e⟩ := Bool.and_eq_true_iff.mp e
  have e49 := e
  exact {
    f_abs := He.free_ok X G (fx 0 rfl)
    f_all := He.free_ok X G (fx 1 rfl)
    f_bool := He.free_ok X G (fx 2 rfl)
    f_int := He.free_ok X G (fx 3 rfl)
    f_isinstance := He.free_ok X G (fx 4 rfl)
    f_len := He.free_ok X G (fx 5 rfl)
    f_list := He.free_ok X G (fx 6 rfl)
    f_max := He.free_ok X G (fx 7 rfl)
    f_min := He.free_ok X G (fx 8 rfl)
    f_range := He.free_ok X G (fx 9 rfl)
    f_repr := He.free_ok X G (fx 10 rfl)
    f_set := He.free_ok X G (fx 11 rfl)
    f_sorted := He.free_ok X G (fx 12 rfl)
    f_str := He.free_ok X G (fx 13 rfl)
    f_sum := He.free_ok X G (fx 14 rfl)
    f_tuple := He.free_ok X G (fx 15 rfl)
    i_MOST_HANDS := He.int_ok X G (fx 16 rfl)
    i_MOST_LOOK := He.int_ok X G (fx 17 rfl)
    i_MOST_PLANT := He.int_ok X G (fx 18 rfl)
    i_MOST_OFFERS := He.int_ok X G (fx 19 rfl)
    i_MOST_PRICE := He.int_ok X G (fx 20 rfl)
    i_MOST_SHOWN := He.int_ok X G (fx 21 rfl)
    d_is_whole := (let ⟨fd, F⟩ := c.d.def_ 0 rfl; ⟨_, fd, He.glo_ok X G (fx 22 rfl), fun_of F⟩)
    d_is_between := (let ⟨fd, F⟩ := c.d.def_ 1 rfl; ⟨_, fd, He.glo_ok X G (fx 23 rfl), fun_of F⟩)
    d_is_list := (let ⟨fd, F⟩ := c.d.def_ 2 rfl; ⟨_, fd, He.glo_ok X G (fx 24 rfl), fun_of F⟩)
    d_is_list_of := (let ⟨fd, F⟩ := c.d.def_ 3 rfl; ⟨_, fd, He.glo_ok X G (fx 25 rfl), fun_of F⟩)
    d_is_tuple_of := (let ⟨fd, F⟩ := c.d.def_ 4 rfl; ⟨_, fd, He.glo_ok X G (fx 26 rfl), fun_of F⟩)
    d_are_between := (let ⟨fd, F⟩ := c.d.def_ 5 rfl; ⟨_, fd, He.glo_ok X G (fx 27 rfl), fun_of F⟩)
    d_is_ascending := (let ⟨fd, F⟩ := c.d.def_ 6 rfl; ⟨_, fd, He.glo_ok X G (fx 28 rfl), fun_of F⟩)
    d_is_states := (let ⟨fd, F⟩ := c.d.def_ 7 rfl; ⟨_, fd, He.glo_ok X G (fx 29 rfl), fun_of F⟩)
    d_is_some_states := (let ⟨fd, F⟩ := c.d.def_ 8 rfl; ⟨_, fd, He.glo_ok X G (fx 30 rfl), fun_of F⟩)
    d_is_looks := (let ⟨fd, F⟩ := c.d.def_ 9 rfl; ⟨_, fd, He.glo_ok X G (fx 31 rfl), fun_of F⟩)
    d_is_plant_steps := (let ⟨fd, F⟩ := c.d.def_ 10 rfl; ⟨_, fd, He.glo_ok X G (fx 32 rfl), fun_of F⟩)
    d_is_offer := (let ⟨fd, F⟩ := c.d.def_ 11 rfl; ⟨_, fd, He.glo_ok X G (fx 33 rfl), fun_of F⟩)
    d_check_offers := (let ⟨fd, F⟩ := c.d.def_ 12 rfl; ⟨_, fd, He.glo_ok X G (fx 34 rfl), fun_of F⟩)
    d_bought := (let ⟨fd, F⟩ := c.d.def_ 13 rfl; ⟨_, fd, He.glo_ok X G (fx 35 rfl), fun_of F⟩)
    d_bought_plant := (let ⟨fd, F⟩ := c.d.def_ 14 rfl; ⟨_, fd, He.glo_ok X G (fx 36 rfl), fun_of F⟩)
    d__law_cell := (let ⟨fd, F⟩ := c.d.def_ 15 rfl; ⟨_, fd, He.glo_ok X G (fx 37 rfl), fun_of F⟩)
    d__law_box := (let ⟨fd, F⟩ := c.d.def_ 16 rfl; ⟨_, fd, He.glo_ok X G (fx 38 rfl), fun_of F⟩)
    d__law_take := (let ⟨fd, F⟩ := c.d.def_ 17 rfl; ⟨_, fd, He.glo_ok X G (fx 39 rfl), fun_of F⟩)
    d__law_same := (let ⟨fd, F⟩ := c.d.def_ 18 rfl; ⟨_, fd, He.glo_ok X G (fx 40 rfl), fun_of F⟩)
    d__law_very := (let ⟨fd, F⟩ := c.d.def_ 19 rfl; ⟨_, fd, He.glo_ok X G (fx 41 rfl), fun_of F⟩)
    d__law_plant := (let ⟨fd, F⟩ := c.d.def_ 20 rfl; ⟨_, fd, He.glo_ok X G (fx 42 rfl), fun_of F⟩)
    d__law_codes := (let ⟨fd, F⟩ := c.d.def_ 21 rfl; ⟨_, fd, He.glo_ok X G (fx 43 rfl), fun_of F⟩)
    d__law_offers := (let ⟨fd, F⟩ := c.d.def_ 22 rfl; ⟨_, fd, He.glo_ok X G (fx 44 rfl), fun_of F⟩)
    d__law_chosen := (let ⟨fd, F⟩ := c.d.def_ 23 rfl; ⟨_, fd, He.glo_ok X G (fx 45 rfl), fun_of F⟩)
    d__law_due := (let ⟨fd, F⟩ := c.d.def_ 24 rfl; ⟨_, fd, He.glo_ok X G (fx 46 rfl), fun_of F⟩)
    d__law_asked := (let ⟨fd, F⟩ := c.d.def_ 25 rfl; ⟨_, fd, He.glo_ok X G (fx 47 rfl), fun_of F⟩)
    d__law_frozen := (let ⟨fd, F⟩ := c.d.def_ 26 rfl; ⟨_, fd, He.glo_ok X G (fx 48 rfl), fun_of F⟩)
    d__law_is_plant := (let ⟨fd, F⟩ := c.d.def_ 27 rfl; ⟨_, fd, He.glo_ok X G (fx 49 rfl), fun_of F⟩)
    d__law_asked_right := (let ⟨fd, F⟩ := c.d.def_ 28 rfl; ⟨_, fd, He.glo_ok X G (fx 50 rfl), fun_of F⟩)
    d__law_bad_offer := (let ⟨fd, F⟩ := c.d.def_ 29 rfl; ⟨_, fd, He.glo_ok X G (fx 51 rfl), fun_of F⟩)
    d__law_refused := (let ⟨fd, F⟩ := c.d.def_ 30 rfl; ⟨_, fd, He.glo_ok X G (fx 52 rfl), fun_of F⟩)
    d__law_right := (let ⟨fd, F⟩ := c.d.def_ 31 rfl; ⟨_, fd, He.glo_ok X G (fx 53 rfl), fun_of F⟩)
    d_law := (let ⟨fd, F⟩ := c.d.def_ 32 rfl; ⟨_, fd, He.glo_ok X G (fx 54 rfl), fun_of F⟩)
    g_WireError := He.glo_ok X G (fx 55 rfl)
    g_InvalidActs := He.glo_ok X G (fx 56 rfl)
    g_InvalidChosen := He.glo_ok X G (fx 57 rfl)
    g_InvalidLooks := He.glo_ok X G (fx 58 rfl)
    g_InvalidOffers := He.glo_ok X G (fx 59 rfl)
    g_InvalidSteps := He.glo_ok X G (fx 60 rfl)
    g_TooMany := He.glo_ok X G (fx 61 rfl)
    g_Plant := He.glo_ok X G (fx 62 rfl)
    c_Plant := (clsB_ok e48).1
    k_Plant := (clsB_ok e48).2
    ni_Plant := (let ⟨fd, F⟩ := c.d.def_ 39 rfl; ⟨fd, fun_of F⟩)
    q_Plant := eqCB_ok e49
    ne_Plant := (let ⟨fd, F⟩ := c.d.def_ 40 rfl; ⟨fd, fun_of F⟩)
    x_InvalidActs := excB_ok e0
    n_InvalidActs := (let ⟨fd, F⟩ := c.d.def_ 33 rfl; ⟨fd, fun_of F⟩)
    x_InvalidChosen := excB_ok e1
    n_InvalidChosen := (let ⟨fd, F⟩ := c.d.def_ 34 rfl; ⟨fd, fun_of F⟩)
    x_InvalidLooks := excB_ok e2
    n_InvalidLooks := (let ⟨fd, F⟩ := c.d.def_ 35 rfl; ⟨fd, fun_of F⟩)
    x_InvalidOffers := excB_ok e3
    n_InvalidOffers := (let ⟨fd, F⟩ := c.d.def_ 36 rfl; ⟨fd, fun_of F⟩)
    x_InvalidSteps := excB_ok e4
    n_InvalidSteps := (let ⟨fd, F⟩ := c.d.def_ 37 rfl; ⟨fd, fun_of F⟩)
    x_TooMany := excB_ok e5
    n_TooMany := (let ⟨fd, F⟩ := c.d.def_ 38 rfl; ⟨fd, fun_of F⟩)
    em := fun k j b h => by
      unfold exT at h
      split at h
      · cases h; exact of_decide_eq_true e6
      · cases h; exact of_decide_eq_true e7
      · cases h; exact of_decide_eq_true e8
      · cases h; exact of_decide_eq_true e9
      · cases h; exact of_decide_eq_true e10
      · cases h; exact of_decide_eq_true e11
      · cases h; exact of_decide_eq_true e12
      · cases h; exact of_decide_eq_true e13
      · cases h; exact of_decide_eq_true e14
      · cases h; exact of_decide_eq_true e15
      · cases h; exact of_decide_eq_true e16
      · cases h; exact of_decide_eq_true e17
      · cases h; exact of_decide_eq_true e18
      · cases h; exact of_decide_eq_true e19
      · cases h; exact of_decide_eq_true e20
      · cases h; exact of_decide_eq_true e21
      · cases h; exact of_decide_eq_true e22
      · cases h; exact of_decide_eq_true e23
      · cases h; exact of_decide_eq_true e24
      · cases h; exact of_decide_eq_true e25
      · cases h; exact of_decide_eq_true e26
      · cases h; exact of_decide_eq_true e27
      · cases h; exact of_decide_eq_true e28
      · cases h; exact of_decide_eq_true e29
      · cases h; exact of_decide_eq_true e30
      · cases h; exact of_decide_eq_true e31
      · cases h; exact of_decide_eq_true e32
      · cases h; exact of_decide_eq_true e33
      · cases h; exact of_decide_eq_true e34
      · cases h; exact of_decide_eq_true e35
      · cases h; exact of_decide_eq_true e36
      · cases h; exact of_decide_eq_true e37
      · cases h; exact of_decide_eq_true e38
      · cases h; exact of_decide_eq_true e39
      · cases h; exact of_decide_eq_true e40
      · cases h; exact of_decide_eq_true e41
      · cases h; exact of_decide_eq_true e42
      · cases h; exact of_decide_eq_true e43
      · cases h; exact of_decide_eq_true e44
      · cases h; exact of_decide_eq_true e45
      · cases h; exact of_decide_eq_true e46
      · cases h; exact of_decide_eq_true e47
      · cases h }
section
variable {P : Program} {w : World} {K : PySem.W.Frag} {mg : Str → Option Value} {base : Heap}
theorem all_fv (T : Txt K w mg) (HT : TakesBox m__law_take) (V7 : Very7 r__law_same) {B : Addr → Prop} : ∃ f fd, mg "law" = some (.ref f) ∧ FnOkG P w K mg base (L2.CX P w) 17 f fd ["script"] (SpV (cc K B) 1 m_law) ∧ Fun K "law" "law" s_law f fd := by
  have F__law_box : ∀ {B : Addr → Prop}, FvL P w K mg base (cc K B) 1 "_law_box" 1 m__law_box := fv__law_box T
  have F__law_cell : ∀ {B : Addr → Prop}, Fv P w K mg base (cc K B) 1 "_law_cell" 2 m__law_cell := fv__law_cell T 
  have F_is_list : ∀ {B : Addr → Prop}, Fv P w K mg base (cc K B) 1 "is_list" 1 m_is_list := fv_is_list T 
  have F_is_list_of : ∀ {B : Addr → Prop}, Fv P w K mg base (cc K B) 2 "is_list_of" 3 m_is_list_of := fv_is_list_of T F_is_list
  have F_is_tuple_of : ∀ {B : Addr → Prop}, Fv P w K mg base (cc K B) 1 "is_tuple_of" 2 m_is_tuple_of := fv_is_tuple_of T 
  have F_is_whole : ∀ {B : Addr → Prop}, Fv P w K mg base (cc K B) 1 "is_whole" 1 m_is_whole := fv_is_whole T 
  have F_is_between : ∀ {B : Addr → Prop}, Fv P w K mg base (cc K B) 2 "is_between" 3 m_is_between := fv_is_between T F_is_whole
  have F_are_between : ∀ {B : Addr → Prop}, Fv P w K mg base (cc K B) 3 "are_between" 3 m_are_between := fv_are_between T F_is_between
  have F_is_offer : ∀ {B : Addr → Prop}, Fv P w K mg base (cc K B) 4 "is_offer" 2 m_is_offer := fv_is_offer T F_is_tuple_of F_is_between F_are_between
  have X_InvalidOffers : ∀ {B : Addr → Prop}, Ec P w K mg base (cc K B) 1 "InvalidOffers" 4 "given" := ec_InvalidOffers T
  have F_check_offers : ∀ {B : Addr → Prop}, Fv P w K mg base (cc K B) 5 "check_offers" 2 m_check_offers := fv_check_offers T F_is_list_of F_is_offer X_InvalidOffers
  have F_is_looks : ∀ {B : Addr → Prop}, Fv P w K mg base (cc K B) 4 "is_looks" 1 m_is_looks := fv_is_looks T F_are_between
  have F_is_ascending : ∀ {B : Addr → Prop}, Fv P w K mg base (cc K B) 1 "is_ascending" 1 m_is_ascending := fv_is_ascending T 
  have F_is_states : ∀ {B : Addr → Prop}, Fv P w K mg base (cc K B) 4 "is_states" 2 m_is_states := fv_is_states T F_are_between F_is_ascending
  have F_is_some_states : ∀ {B : Addr → Prop}, Fv P w K mg base (cc K B) 5 "is_some_states" 2 m_is_some_states := fv_is_some_states T F_is_states
  have F_is_plant_steps : ∀ {B : Addr → Prop}, Fv P w K mg base (cc K B) 6 "is_plant_steps" 3 m_is_plant_steps := fv_is_plant_steps T F_is_list_of F_is_some_states
  have X_InvalidActs : ∀ {B : Addr → Prop}, Ec P w K mg base (cc K B) 1 "InvalidActs" 1 "given" := ec_InvalidActs T
  have X_InvalidLooks : ∀ {B : Addr → Prop}, Ec P w K mg base (cc K B) 1 "InvalidLooks" 3 "given" := ec_InvalidLooks T
  have X_InvalidSteps : ∀ {B : Addr → Prop}, Ec P w K mg base (cc K B) 1 "InvalidSteps" 5 "given" := ec_InvalidSteps T
  have N_Plant : ∀ {B : Addr → Prop}, Nv P w K mg base (cc K B) 7 "Plant" 7 3 m_Plant := nv_Plant T F_is_between X_InvalidActs F_is_looks X_InvalidLooks F_is_plant_steps X_InvalidSteps
  have Q_Plant : ∀ {B : Addr → Prop}, EqT P w K mg base (cc K B) 1 7 m_Plant_eq := qv_Plant T 
  have X_TooMany : ∀ {B : Addr → Prop}, Ec P w K mg base (cc K B) 1 "TooMany" 6 "count" := ec_TooMany T
  have F_bought : ∀ {B : Addr → Prop}, Fv P w K mg base (cc K B) 9 "bought" 3 m_bought := fv_bought T X_TooMany N_Plant
  have X_InvalidChosen : ∀ {B : Addr → Prop}, Ec P w K mg base (cc K B) 1 "InvalidChosen" 2 "given" := ec_InvalidChosen T
  have F_bought_plant : ∀ {B : Addr → Prop}, Fv P w K mg base (cc K B) 10 "bought_plant" 3 m_bought_plant := fv_bought_plant T F_check_offers F_is_states X_InvalidChosen F_bought
  have K_bought_plant_chosen_offers_plant : ∀ {B : Addr → Prop}, FvK P w K mg base (cc K B) 10 "bought_plant" 3 m_bought_plant ["chosen", "offers", "plant"] [2, 1, 0] := kv_bought_plant_chosen_offers_plant T F_check_offers F_is_states X_InvalidChosen F_bought
  have F__law_asked : ∀ {B : Addr → Prop}, Fv P w K mg base (cc K B) 11 "_law_asked" 4 m__law_asked := fv__law_asked T F_bought_plant K_bought_plant_chosen_offers_plant
  have F__law_take : ∀ {B : Addr → Prop}, Fv P w K mg base (cc K B) 1 "_law_take" 2 mTake := (fv__law_take T).take HT
  have F__law_same : ∀ {B : Addr → Prop}, Fv P w K mg base (cc K B) 13 "_law_same" 2 r__law_same := fv__law_same T 
  have F__law_very : ∀ {B : Addr → Prop}, FvV1 P w K mg base (cc K B) 14 "_law_very" r__law_same := fv__law_very T V7 F__law_same
  have F__law_bad_offer : ∀ {B : Addr → Prop}, Fv P w K mg base (cc K B) 2 "_law_bad_offer" 2 m__law_bad_offer := fv__law_bad_offer T F__law_take
  have F__law_refused : ∀ {B : Addr → Prop}, Fv P w K mg base (cc K B) 15 "_law_refused" 5 m__law_refused := fv__law_refused T F__law_take F__law_bad_offer F__law_asked F__law_very
  have F__law_plant : ∀ {B : Addr → Prop}, Fv P w K mg base (cc K B) 2 "_law_plant" 3 m__law_plant := fv__law_plant T F__law_take
  have F__law_codes : ∀ {B : Addr → Prop}, Fv P w K mg base (cc K B) 2 "_law_codes" 3 m__law_codes := fv__law_codes T F__law_take
  have F__law_offers : ∀ {B : Addr → Prop}, Fv P w K mg base (cc K B) 3 "_law_offers" 2 m__law_offers := fv__law_offers T F__law_take F__law_codes
  have F__law_chosen : ∀ {B : Addr → Prop}, Fv P w K mg base (cc K B) 2 "_law_chosen" 3 m__law_chosen := fv__law_chosen T F__law_take
  have F__law_frozen : ∀ {B : Addr → Prop}, Fv P w K mg base (cc K B) 1 "_law_frozen" 1 m__law_frozen := fv__law_frozen T 
  have F__law_is_plant : ∀ {B : Addr → Prop}, Fv P w K mg base (cc K B) 14 "_law_is_plant" 4 m__law_is_plant := fv__law_is_plant T F__law_same F__law_frozen N_Plant Q_Plant
  have F__law_due : ∀ {B : Addr → Prop}, Fv P w K mg base (cc K B) 1 "_law_due" 3 m__law_due := fv__law_due T 
  have F__law_asked_right : ∀ {B : Addr → Prop}, FvG P w K mg base (cc K B) 15 "_law_asked_right" 4 m__law_asked_right := fv__law_asked_right T N_Plant F__law_due F__law_asked F__law_is_plant F__law_same
  have F__law_right : ∀ {B : Addr → Prop}, FvG P w K mg base (cc K B) 16 "_law_right" 2 m__law_right := fv__law_right T F__law_take F__law_plant F__law_offers F__law_chosen F__law_asked_right F__law_refused N_Plant
  exact fo_law T F__law_box F__law_cell F__law_right F__law_take
end
end k02

set_option Elab.async false
set_option linter.all false
set_option maxRecDepth 100000
set_option maxHeartbeats 1000000
namespace k02
open PySem PySem.Spec PyProof.Rows L2 VL
theorem take_ok : TakesBox m__law_take := by
  intro a b d k n many K E ha hd hd2 hk hkn hm hm2 hn h
  have e1 : ixN 4 0 = some 0 := rfl
  have e2 : ixN 4 1 = some 1 := rfl
  have e3 : ixN 4 2 = some 2 := rfl
  have e4 : ixN 4 3 = some 3 := rfl
  unfold m__law_take
  rw [fnV_eq rfl]
  by_cases hb : b = true ∧ 0 < a
  · obtain ⟨rfl, hb⟩ := hb
    have q := h (a / many) true d k (a % many) (Int.ediv_nonneg ha (by omega)) hd hd2 hk (by omega) (Int.emod_nonneg _ (by omega)) (Int.emod_lt_of_pos _ hm)
    simp [b__law_take, ownAt, SV.own, pIx, atI, e1, e2, e3, e4, truth, pGt, mod_ok hm, pInt, fdiv_ok hm hm2, hb, outs, q]
  · have m1 : pMul (.int 15486181) (.int (k + 1)) = some (.int (15486181 * (k + 1))) := mul_ok (by decide) (by omega)
    have p1 : pPow (.int (d + 15486181 * (k + 1) + 179424949)) (.int 5) = some (.int ((d + 15486181 * (k + 1) + 179424949) ^ 5)) := pow_ok (j := 5) (by decide) (by omega)
    obtain ⟨x, hx⟩ : ∃ x : Int, x = (d + 15486181 * (k + 1) + 179424949) ^ 5 := ⟨_, rfl⟩
    rw [← hx] at p1
    have o1 : pMod (.int x) (.int 2147483647) = some (.int (x % 2147483647)) := mod_ok (by decide)
    obtain ⟨y, hy⟩ : ∃ y : Int, y = x % 2147483647 := ⟨_, rfl⟩
    have y0 : 0 ≤ y ∧ y < 2147483647 := by omega
    rw [← hy] at o1
    have m2 : pMul (.int y) (.int 48271) = some (.int (y * 48271)) := mul_ok (by omega) (by decide)
    have m3 : pMul (.int 104911) (.int (k + 1)) = some (.int (104911 * (k + 1))) := mul_ok (by decide) (by omega)
    have p2 : pPow (.int (y * 48271 + 104911 * (k + 1))) (.int 3) = some (.int ((y * 48271 + 104911 * (k + 1)) ^ 3)) := pow_ok (j := 3) (by decide) (by omega)
    obtain ⟨z, hz⟩ : ∃ z : Int, z = (y * 48271 + 104911 * (k + 1)) ^ 3 := ⟨_, rfl⟩
    rw [← hz] at p2
    have o2 : pMod (.int z) (.int 2147483587) = some (.int (z % 2147483587)) := mod_ok (by decide)
    have o3 : pFdiv (.int (z % 2147483587)) (.int 64) = some (.int (z % 2147483587 / 64)) := fdiv_ok (by decide) (by decide)
    have q := h a b d (k + 1) (z % 2147483587 / 64 % many) ha hd hd2 (by omega) (by omega) (Int.emod_nonneg _ (by omega)) (Int.emod_lt_of_pos _ hm)
    have hb' : b = true → ¬ 0 < a := fun h1 h2 => hb ⟨h1, h2⟩
    cases b with
    | false => simp [b__law_take, ownAt, SV.own, pIx, atI, e1, e2, e3, e4, truth, pAdd, m1, p1, pInt, o1, m2, m3, p2, o2, o3, mod_ok hm, outs, q]
    | true => simp [b__law_take, ownAt, SV.own, pIx, atI, e1, e2, e3, e4, truth, pGt, hb' rfl, pAdd, m1, p1, pInt, o1, m2, m3, p2, o2, o3, mod_ok hm, outs, q]
theorem cell_val (ns : List Int) (k : Nat) (hk : k < 1000) : ∃ c : Int, m__law_cell [.fz (.scr ns), .fz (.int k)] = .ret (.int c, [.un, .un]) := by
  unfold m__law_cell
  rw [fnV_eq rfl]
  have hm : pMul (.int 7019) (.int k) = some (.int (7019 * (k : Int))) := mul_ok (by decide) (by omega)
  have hs : pSum (.lst none ((cutP ns none (some 1)).map PV.int)) = some (.int (cutP ns none (some 1)).sum) := by
    show (intsOf _).map _ = _
    rw [intsOf_map]
    rfl
  have ho : pMod (.int (cutP ns none (some 1)).sum) (.int 1000033) = some (.int ((cutP ns none (some 1)).sum % 1000033)) := mod_ok (by decide)
  by_cases h : (k : Int) < ns.length
  · have hk2 : k < ns.length := by omega
    have e : pIx (.scr ns) (.int k) = some (.int ns[k]) := by
      show (atI ns (k : Int)).map PV.int = _
      rw [atI_nat' (List.getElem?_eq_getElem hk2)]
      rfl
    exact ⟨ns[k], by simp [b__law_cell, pLt, pLtT, pLen, h, e, outs, SV.own]⟩
  · exact ⟨_, by simp [b__law_cell, pLt, pLtT, pLen, h, hm, pSl, hs, pInt, ho, pAdd, outs, SV.own]; rfl⟩
theorem box_val (c : Int) : ∃ (a d : Int) (b : Bool), m__law_box [.int c] = .ret [.int a, .bl b, .int d, .int 0] ∧ 0 ≤ a ∧ 0 ≤ d ∧ d < 2147483629 := by
  obtain ⟨a, ha⟩ : ∃ a : Int, a = if c < 0 then -c else c := ⟨_, rfl⟩
  have h0 : 0 ≤ a := by rw [ha]; split <;> omega
  have e1 : pAbs (.int c) = some (.int a) := by rw [ha]; rfl
  have e2 : pPow (.int 10) (.int 18) = some (.int (10 ^ 18)) := pow_ok (j := 18) (by decide) (by decide)
  obtain ⟨g, hg⟩ : ∃ g : Int, g = 10 ^ 18 := ⟨_, rfl⟩
  rw [← hg] at e2
  have e3 : pMod (.int a) (.int 2147483629) = some (.int (a % 2147483629)) := mod_ok (by decide)
  refine ⟨a, a % 2147483629, decide (g ≤ a), ?_, h0, by omega, by omega⟩
  simp [m__law_box, fnL, b__law_box, fzs, e1, e2, e3, pGe, pInt]
theorem box_step {ρ : Env'} {ns : List Int} {k : Nat} (h0 : ρ[0]? = some (.fz (.scr ns))) (h1 : ρ[1]? = some (.fz (.int k))) (hk : k < 1000) :
    sBox 2 (lCall m__law_box (aCons (eCall m__law_cell (aCons (eVar 0) (aCons (eVar 1) aNil))) aNil)) ρ = .ret (.nx (ρ.set 2 (.bx 0))) := by
  obtain ⟨c, hc⟩ := cell_val ns k hk
  obtain ⟨a, d, b, hb, b0, b1, b2⟩ := box_val c
  unfold sBox lCall
  simp [h0, h1, fzs, hc, hb, b0, b1, b2]
theorem same_eq : ∀ n, m__law_same n = mSame n
  | 0 => rfl
  | n + 1 => by
    show fnV 3 noPin (b__law_same (m__law_same n)) = fnV 3 noPin (bSame (mSame n))
    rw [same_eq n]
    rfl
theorem same_run {a b : PV} (h : Sm 12 a b) : r__law_same [.fz a, .fz b] = .ret (.bl true, [.un, .un]) := by
  show m__law_same 12 _ = _
  rw [same_eq]
  exact same_ok 12 a b h
end k02

set_option Elab.async false
set_option linter.all false
set_option maxRecDepth 100000
set_option maxHeartbeats 1000000
namespace k02
open PySem PySem.Spec PyProof.Rows L2 VL
/-! ### the judges of values -/
theorem whole_ok (v : PV) (h : kd v = true) : m_is_whole [.fz v] = .ret (.bl (whole v), [.un]) := by
  unfold m_is_whole
  rw [fnV_eq rfl]
  cases v <;> first | (simp [b_is_whole, pIsi, isT, tyN, whole, outs, SV.own]; done) | cases h
theorem btw_ok (v : PV) (h : kd v = true) (lo hi : Int) : m_is_between [.fz v, .fz (.int lo), .fz (.int hi)] = .ret (.bl (btw v lo hi), [.un, .un, .un]) := by
  unfold m_is_between
  rw [fnV_eq rfl]
  have e := whole_ok v h
  cases v with
  | int i => by_cases a : lo ≤ i <;> by_cases b : i ≤ hi <;> simp [b_is_between, fzs, e, whole, btw, eChain, pLe, a, b, outs, SV.own]
  | _ => first | (simp [b_is_between, fzs, e, whole, btw, outs, SV.own]; done) | cases h
theorem list_ok (v : PV) (h : kd v = true) : m_is_list [.fz v] = .ret (.bl (isL v), [.un]) := by
  unfold m_is_list
  rw [fnV_eq rfl]
  cases v <;> first | (simp [b_is_list, pIsiT, anyT, isT, tyN, outs, SV.own, isL]; done) | cases h
theorem list_of_ok (v : PV) (h : kd v = true) (lo hi : Int) : m_is_list_of [.fz v, .fz (.int lo), .fz (.int hi)] = .ret (.bl (lenB v lo hi), [.un, .un, .un]) := by
  unfold m_is_list_of
  rw [fnV_eq rfl]
  have e := list_ok v h
  cases v with
  | tup xs => by_cases a : lo ≤ xs.length <;> by_cases b : (xs.length : Int) ≤ hi <;> simp [b_is_list_of, fzs, e, isL, lenB, lenOf, pLen, eChain, pLe, a, b, outs, SV.own]
  | lst g xs => by_cases a : lo ≤ xs.length <;> by_cases b : (xs.length : Int) ≤ hi <;> simp [b_is_list_of, fzs, e, isL, lenB, lenOf, pLen, eChain, pLe, a, b, outs, SV.own]
  | _ => first | (simp [b_is_list_of, fzs, e, isL, lenB, lenOf, outs, SV.own]; done) | cases h
theorem items_of {v : PV} (h : isL v = true) : items v = some (itemsOf v) := by
  cases v <;> first | rfl | cases h
theorem are_ok (v : PV) (hl : isL v = true) (hz : (itemsOf v).length ≤ 1000000) (hk : ∀ x ∈ itemsOf v, kd x = true) (lo hi : Int) : m_are_between [.fz v, .fz (.int lo), .fz (.int hi)] = .ret (.bl (arB (itemsOf v) lo hi), [.un, .un, .un]) := by
  unfold m_are_between
  rw [fnV_eq rfl]
  have q := lLc_map (i := 3) (gi := iSeq (eVar 0)) (ge := eCall m_is_between (aCons (eVar 3) (aCons (eVar 1) (aCons (eVar 2) aNil)))) (ρ := [.fz v, .fz (.int lo), .fz (.int hi), .un]) (xs := itemsOf v) (fun x => .bl (btw x lo hi)) (by simp [items_of hl]) (sl_le (by omega)) rfl
    (fun x hx => by simp [fzs, btw_ok x (hk x hx)])
  simp [b_are_between, q, pAll_bl, arB, outs, SV.own]
theorem asc_ok (b : Bool) (ns : List Int) (hz : ns.length ≤ 1000000) : m_is_ascending [.fz (sq b (ns.map .int))] = .ret (.bl (ascB ns), [.un]) := by
  unfold m_is_ascending
  rw [fnV_eq rfl]
  have q := lLc_map (i := 1) (gi := iRng (eOp2 pSub (eOp1 pLen (eVar 0)) (eC (.int 1)))) (ge := eOp2 pLtT (eOp2 pIx (eVar 0) (eVar 1)) (eOp2 pIx (eVar 0) (eOp2 pAdd (eVar 1) (eC (.int 1))))) (ρ := [.fz (sq b (ns.map .int)), .un])
    (xs := (List.range (ns.length - 1)).map fun (k : Nat) => PV.int k) (fun x => match x with | .int k => .bl (decide (ns.getD k.toNat 0 < ns.getD (k.toNat + 1) 0)) | _ => .non) (by simp [pSub, iRange_sub hz]) (by rw [List.length_map, List.length_range]; exact sl_le (by omega)) rfl
    (fun x hx => by
      obtain ⟨k, hk, rfl⟩ := mem_range_int hx
      have l1 : k < ns.length := by omega
      have l2 : k + 1 < ns.length := by omega
      have a1 : atI (ns.map PV.int) (k : Int) = some (.int ns[k]) := atI_nat' (by rw [List.getElem?_map, List.getElem?_eq_getElem l1]; rfl)
      have a2 : atI (ns.map PV.int) ((k : Int) + 1) = some (.int ns[k + 1]) := by
        have := atI_nat' (xs := ns.map PV.int) (k := k + 1) (x := .int ns[k + 1]) (by rw [List.getElem?_map, List.getElem?_eq_getElem l2]; rfl)
        rwa [Int.natCast_add, Int.natCast_one] at this
      simp [a1, a2, pAdd, pLtT, List.getD_eq_getElem?_getD, List.getElem?_eq_getElem l1, List.getElem?_eq_getElem l2])
  have e : ((List.range (ns.length - 1)).map fun (k : Nat) => PV.int k).map (fun x => match x with | .int k => PV.bl (decide (ns.getD k.toNat 0 < ns.getD (k.toNat + 1) 0)) | _ => .non) = (List.range (ns.length - 1)).map fun k => PV.bl (decide (ns.getD k 0 < ns.getD (k + 1) 0)) := by
    rw [List.map_map]
    exact List.map_congr_left fun k _ => rfl
  rw [e] at q
  have p := pAll_map (List.range (ns.length - 1)) fun k => decide (ns.getD k 0 < ns.getD (k + 1) 0)
  simp only [b_is_ascending, c_sRet, c_eOp1, c_eLst, List.length_cons, List.length_nil, Nat.reduceAdd, Nat.reduceSub, List.replicate, List.cons_append, List.nil_append, q, p, Wp.ret_bind, lift, Wp.mapE_ret]
  rfl
theorem states_ok (v : PV) (h : kq v = true) (n : Int) : m_is_states [.fz v, .fz (.int n)] = .ret (.bl (stB n v), [.un, .un]) := by
  unfold m_is_states
  rw [fnV_eq rfl]
  cases v with
  | tup xs =>
    have q := are_ok (.tup xs) rfl (kq_len h) (kq_all h) 0 (n - 1)
    simp only [itemsOf] at q
    have z : xs.length ≤ 1000000 := kq_len h
    cases ha : arB xs 0 (n - 1) with
    | false =>
      rw [ha] at q
      simp [b_is_states, pIsi, isT, tyN, fzs, pSub, q, stB, ha, outs, SV.own]
    | true =>
      rw [ha] at q
      obtain ⟨ns, rfl, hn⟩ := arB_ints ha
      have p := asc_ok true ns (by rw [List.length_map] at z; exact z)
      rw [show sq true (ns.map PV.int) = .tup (ns.map PV.int) from rfl] at p
      simp [b_is_states, pIsi, isT, tyN, fzs, pSub, q, p, stB, ha, intsOf_map, outs, SV.own]
  | _ => first | (simp [b_is_states, pIsi, isT, tyN, stB, outs, SV.own]; done) | cases kq_kd h
theorem some_ok (v : PV) (h : kq v = true) (n : Int) : m_is_some_states [.fz v, .fz (.int n)] = .ret (.bl (stB n v && decide (0 < (itemsOf v).length)), [.un, .un]) := by
  unfold m_is_some_states
  rw [fnV_eq rfl]
  have q := states_ok v h n
  cases hs : stB n v with
  | false => rw [hs] at q; simp [b_is_some_states, fzs, q, outs, SV.own]
  | true =>
    rw [hs] at q
    cases v with
    | tup xs =>
      by_cases hz : 0 < xs.length <;> simp [b_is_some_states, fzs, q, pLen, pGt, itemsOf, hz, outs, SV.own]
    | _ => cases hs
theorem tuple_ok (v : PV) (h : kd v = true) (n : Nat) : m_is_tuple_of [.fz v, .fz (.int n)] = .ret (.bl (tupn n v), [.un, .un]) := by
  unfold m_is_tuple_of
  rw [fnV_eq rfl]
  cases v with
  | tup xs =>
    have e2 : ((xs.length : Int) = n) ↔ (xs.length = n) := by omega
    simp [b_is_tuple_of, pIsi, isT, tyN, outs, SV.own, tupn, pLen, pEq_int, e2]
  | _ => first | (simp [b_is_tuple_of, pIsi, isT, tyN, outs, SV.own, tupn]; done) | cases h
end k02

set_option Elab.async false
set_option linter.all false
set_option maxRecDepth 100000
set_option maxHeartbeats 1000000
namespace k02
open PySem PySem.Spec PyProof.Rows L2 VL
/-! ### plants as trees -/
abbrev CellT := Option (List Int)
def cellP : CellT → PV
  | none => .non
  | some c => .tup (c.map .int)
def stv (b : Bool) (S : List (List CellT)) : PV := sq b (S.map fun r => sq b (r.map cellP))
def lkP (L : List Int) : PV := .tup (L.map .int)
structure CellOk (n : Nat) (c : CellT) : Prop where
  ok : ∀ ns, c = some ns → ns ≠ [] ∧ ns.length ≤ 30 ∧ ns.Pairwise (· < ·) ∧ ∀ i ∈ ns, 0 ≤ i ∧ i < n
structure POk (a : Nat) (L : List Int) (S : List (List CellT)) : Prop where
  a1 : 1 ≤ a
  a6 : a ≤ 6
  l1 : 1 ≤ L.length
  l24 : L.length ≤ 24
  look : ∀ i ∈ L, 0 ≤ i ∧ i ≤ 7
  slen : S.length = L.length
  row : ∀ r ∈ S, r.length = a
  cell : ∀ r ∈ S, ∀ c ∈ r, CellOk L.length c
theorem kq_ints {ns : List Int} (h : ns.length ≤ 1000000) : kq (.tup (ns.map .int)) = true := by
  unfold kq
  simp only [itemsOf, List.length_map, h, decide_true, Bool.and_true]
  rw [Bool.and_eq_true]
  refine ⟨rfl, List.all_eq_true.mpr fun x hx => ?_⟩
  obtain ⟨i, _, rfl⟩ := List.mem_map.mp hx
  rfl
theorem looks_ok {L : List Int} (l1 : 1 ≤ L.length) (l24 : L.length ≤ 24) (h : ∀ i ∈ L, 0 ≤ i ∧ i ≤ 7) : m_is_looks [.fz (lkP L)] = .ret (.bl true, [.un]) := by
  unfold m_is_looks
  rw [fnV_eq rfl]
  have q := are_ok (lkP L) rfl (by simp [lkP, itemsOf]; omega) (fun x hx => by
    obtain ⟨i, _, rfl⟩ := List.mem_map.mp hx
    rfl) 0 7
  rw [show itemsOf (lkP L) = L.map .int from rfl, arB_of h] at q
  have e1 : pIsi "tuple" (lkP L) = some (.bl true) := by simp [lkP, pIsi, isT, tyN]
  have e2 : pLen (lkP L) = some (.int L.length) := by simp [lkP, pLen]
  have c1 : (1 : Int) ≤ L.length := by omega
  have c2 : (L.length : Int) ≤ 24 := by omega
  simp [b_is_looks, e1, e2, eChain, pLe, c1, c2, fzs, q, outs, SV.own]
theorem cell_ok {n : Nat} {c : CellT} (h : CellOk n c) (ρ : Env') (h4 : ρ[4]? = some (.fz (cellP c))) (h1 : ρ[1]? = some (.fz (.int n))) : eOr (eOp2 pIs (eVar 4) (eC .non)) (eCall m_is_some_states (aCons (eVar 4) (aCons (eVar 1) aNil))) ρ = .ret (.bl true, ρ) := by
  cases c with
  | none => simp [h4, cellP, pIs]
  | some ns =>
    obtain ⟨h1', h2, h3, h5⟩ := h.ok ns rfl
    have q := some_ok (.tup (ns.map .int)) (kq_ints (by omega)) n
    rw [stB_of h5 h3] at q
    have hp : 0 < ns.length := List.length_pos_iff.mpr h1'
    simp [itemsOf, hp, h1'] at q
    simp [h4, h1, cellP, pIs, fzs, q]
theorem psteps_ok {a : Nat} {L : List Int} {S : List (List CellT)} (b : Bool) (o : POk a L S) : m_is_plant_steps [.fz (stv b S), .fz (.int L.length), .fz (.int a)] = .ret (.bl true, [.un, .un, .un]) := by
  unfold m_is_plant_steps
  rw [fnV_eq rfl]
  have s24 : S.length ≤ 24 := by rw [o.slen]; exact o.l24
  have q1 := list_of_ok (stv b S) (by simp [stv]) L.length L.length
  rw [stv, sq_lenB, List.length_map, o.slen] at q1
  simp only [Int.le_refl, decide_true, Bool.and_self] at q1
  have wl : (S.map fun r => sq b (r.map cellP)).length = S.length := List.length_map _
  have e1 : lLc [3] (iSeq (eVar 0)) (gN 3) (gYes) (eCall m_is_list_of (aCons (eVar 3) (aCons (eVar 2) (aCons (eVar 2) (aNil))))) [SV.fz (stv b S), .fz (.int L.length), .fz (.int a), .un, .un] =
      .ret ((S.map fun r => sq b (r.map cellP)).map fun _ => .bl true, [SV.fz (stv b S), .fz (.int L.length), .fz (.int a), .un, .un]) := by
    refine lLc_map _ (by simp [stv]) (by rw [wl]; exact sl_le (by omega)) rfl fun x hx => ?_
    obtain ⟨r, hr, rfl⟩ := List.mem_map.mp hx
    have t := list_of_ok (sq b (r.map cellP)) (by simp) a a
    rw [sq_lenB, List.length_map, o.row r hr] at t
    simp only [Int.le_refl, decide_true, Bool.and_self] at t
    simp [fzs, t]
  have e3 : lLc2 [3, 4] [4] (iSeq (eVar 0)) (gN 3) (gYes) (iSeq (eVar 3)) (gN 4) (gYes) (eOr (eOp2 pIs (eVar 4) (eC .non)) (eCall m_is_some_states (aCons (eVar 4) (aCons (eVar 1) (aNil))))) [SV.fz (stv b S), .fz (.int L.length), .fz (.int a), .un, .un] =
      .ret ((S.map fun r => sq b (r.map cellP)).flatMap fun x => ((items x).getD []).map fun _ => .bl true, [SV.fz (stv b S), .fz (.int L.length), .fz (.int a), .un, .un]) := by
    refine lLc2_gen (fun ρ => ∃ u v, ρ = [SV.fz (stv b S), .fz (.int L.length), .fz (.int a), u, v]) (fun x => (items x).getD []) (fun _ _ => .bl true) (by simp [stv]) (by rw [wl]; omega) rfl ⟨_, _, rfl⟩ (fun x hx ρ1 ⟨u, v, e⟩ => ?_) fun ρ1 ⟨u, v, e⟩ => by rw [e]; rfl
    obtain ⟨r, hr, rfl⟩ := List.mem_map.mp hx
    subst e
    have l6 : r.length ≤ 6 := by rw [o.row r hr]; exact o.a6
    refine ⟨[SV.fz (stv b S), .fz (.int L.length), .fz (.int a), .fz (sq b (r.map cellP)), .un], rfl, rfl, by simp, by simp; omega, fun ρ => ∃ v, ρ = [SV.fz (stv b S), .fz (.int L.length), .fz (.int a), .fz (sq b (r.map cellP)), v], ⟨_, rfl⟩, fun ρ3 ⟨v, e⟩ => ⟨_, _, e⟩, fun y hy ρ3 ⟨v, e⟩ => ?_⟩
    rw [sq_items] at hy
    obtain ⟨c, hc, rfl⟩ := List.mem_map.mp hy
    subst e
    exact ⟨[SV.fz (stv b S), .fz (.int L.length), .fz (.int a), .fz (sq b (r.map cellP)), .fz (cellP c)], rfl, ⟨_, rfl⟩, rfl, cell_ok (o.cell r hr c hc) _ rfl rfl⟩
  have e3' : ∃ bs, lLc2 [3, 4] [4] (iSeq (eVar 0)) (gN 3) (gYes) (iSeq (eVar 3)) (gN 4) (gYes) (eOr (eOp2 pIs (eVar 4) (eC .non)) (eCall m_is_some_states (aCons (eVar 4) (aCons (eVar 1) (aNil))))) [SV.fz (stv b S), .fz (.int L.length), .fz (.int a), .un, .un] =
      .ret (bs, [SV.fz (stv b S), .fz (.int L.length), .fz (.int a), .un, .un]) ∧ pAll (.lst none bs) = some (.bl true) := by
    refine ⟨_, e3, ?_⟩
    rw [← List.map_flatMap]
    exact pAll_true _
  obtain ⟨bs1, e1, p1⟩ := all_true e1
  obtain ⟨bs3, e3, p3⟩ := e3'
  have q1' : m_is_list_of [.fz (stv b S), .fz (.int L.length), .fz (.int L.length)] = .ret (.bl true, [.un, .un, .un]) := q1
  simp [b_is_plant_steps, fzs, q1', truth, e1, p1, e3, p3, outs, SV.own]
/-! ### a plant made -/
def fvP (a : Nat) (L : List Int) (S : List (List CellT)) : List (Str × PV) := [("acts", .int a), ("looks", lkP L), ("steps", stv true S)]
def opv (a : Nat) (L : List Int) (S : List (List CellT)) : PV := .ins 7 (fvP a L S)
theorem plant_ok {a : Nat} {L : List Int} {S : List (List CellT)} (b : Bool) (o : POk a L S) : m_Plant [.int a, lkP L, stv b S] = .ret (fvP a L S) := by
  have q1 := btw_ok (.int a) rfl 1 6
  have b1 : (1 : Int) ≤ (a : Int) := by have := o.a1; omega
  have b2 : (a : Int) ≤ 6 := by have := o.a6; omega
  simp only [btw, b1, b2, decide_true, Bool.and_self] at q1
  have q2 := looks_ok o.l1 o.l24 o.look
  have q3 := psteps_ok b o
  have wl : (S.map fun r => sq b (r.map cellP)).length = S.length := List.length_map _
  have s24 : S.length ≤ 24 := by rw [o.slen]; exact o.l24
  have e1 : lLc [4] (iSeq (eVar 3)) (gN 4) (gYes) (eOp1 pTuple (eVar 4)) [SV.un, .fz (.int a), .fz (lkP L), .fz (stv b S), .un] = .ret ((S.map fun r => sq b (r.map cellP)).map fun x => (pTuple x).getD .non, [SV.un, .fz (.int a), .fz (lkP L), .fz (stv b S), .un]) := by
    refine lLc_map _ (by simp [stv]) (by rw [wl]; exact sl_le (by omega)) rfl fun x hx => ?_
    obtain ⟨r, hr, rfl⟩ := List.mem_map.mp hx
    simp
  have e2 : ((S.map fun r => sq b (r.map cellP)).map fun x => (pTuple x).getD .non) = S.map fun r => sq true (r.map cellP) := by
    rw [List.map_map]
    exact List.map_congr_left fun r _ => by cases b <;> rfl
  rw [e2] at e1
  have e5 : pTuple (.lst none (S.map fun r => sq true (r.map cellP))) = some (stv true S) := rfl
  have el : pLen (lkP L) = some (.int L.length) := by simp [lkP, pLen]
  have l1 : (PySem.Str.ofString "looks" == PySem.Str.ofString "acts") = false := by decide +kernel
  have l2 : (PySem.Str.ofString "steps" == PySem.Str.ofString "acts") = false := by decide +kernel
  have l3 : (PySem.Str.ofString "steps" == PySem.Str.ofString "looks") = false := by decide +kernel
  simp [m_Plant, iniV, mi_Plant, iCons, iEnd, runF, nown, SV.own, fzs, q1, q2, q3, el, truth, e1, e5, List.lookup, l1, l2, l3, fvP]
@[simp] theorem fld_acts (a : Nat) (L : List Int) (S : List (List CellT)) : fldP flds_Plant (PySem.Str.ofString "acts") 7 (opv a L S) = some (.int a) := by
  have l0 : (PySem.Str.ofString "acts") ∈ flds_Plant := by decide +kernel
  unfold fldP opv fvP
  dsimp only
  rw [if_pos ⟨rfl, l0⟩]
  rfl
@[simp] theorem fld_looks (a : Nat) (L : List Int) (S : List (List CellT)) : fldP flds_Plant (PySem.Str.ofString "looks") 7 (opv a L S) = some (lkP L) := by
  have l0 : (PySem.Str.ofString "looks") ∈ flds_Plant := by decide +kernel
  have l1 : (PySem.Str.ofString "looks" == PySem.Str.ofString "acts") = false := by decide +kernel
  unfold fldP opv fvP
  dsimp only
  rw [if_pos ⟨rfl, l0⟩, List.lookup, l1]
  rfl
@[simp] theorem fld_steps (a : Nat) (L : List Int) (S : List (List CellT)) : fldP flds_Plant (PySem.Str.ofString "steps") 7 (opv a L S) = some (stv true S) := by
  have l0 : (PySem.Str.ofString "steps") ∈ flds_Plant := by decide +kernel
  have l1 : (PySem.Str.ofString "steps" == PySem.Str.ofString "acts") = false := by decide +kernel
  have l2 : (PySem.Str.ofString "steps" == PySem.Str.ofString "looks") = false := by decide +kernel
  unfold fldP opv fvP
  dsimp only
  rw [if_pos ⟨rfl, l0⟩, List.lookup, l1, List.lookup, l2]
  rfl
@[simp] theorem isC_opv (a : Nat) (L : List Int) (S : List (List CellT)) : pIsC 7 (opv a L S) = some (.bl true) := rfl
@[simp] theorem okR_opv (a : Nat) (L : List Int) (S : List (List CellT)) : okR 7 (opv a L S) = true := rfl
/-! ### == -/
mutual
def plainV : Nat → PV → Bool
  | _, .non => true
  | _, .int _ => true
  | n + 1, .tup xs => plainVs n xs
  | _, _ => false
def plainVs : Nat → List PV → Bool
  | _, [] => true
  | n, x :: xs => plainV n x && plainVs n xs
end
mutual
theorem plainV_ok : ∀ (n : Nat) (v : PV), plainV n v = true → ∃ d, pvD v = some d ∧ d.canLay0 = true ∧ d.depth ≤ n
  | n, .non, _ => ⟨.none, rfl, rfl, Nat.zero_le _⟩
  | n, .int i, _ => ⟨.int i, rfl, rfl, Nat.zero_le _⟩
  | n + 1, .tup xs, h => by
    have h' : plainVs n xs = true := by simpa [plainV] using h
    obtain ⟨ds, e, l, d⟩ := plainVs_ok n xs h'
    refine ⟨.tuple ds, by unfold pvD; rw [e]; rfl, by simpa [PyData.canLay0] using l, by simp only [PyData.depth]; omega⟩
  | 0, .tup xs, h => by simp [plainV] at h
  | _, .bl _, h => by simp [plainV] at h
  | _, .str _, h => by simp [plainV] at h
  | _, .lst _ _, h => by simp [plainV] at h
  | _, .dic _ _, h => by simp [plainV] at h
  | _, .ins _ _, h => by simp [plainV] at h
  | _, .scr _, h => by simp [plainV] at h
  | _, .any, h => by simp [plainV] at h
theorem plainVs_ok : ∀ (n : Nat) (xs : List PV), plainVs n xs = true → ∃ ds, pvDs xs = some ds ∧ PyData.canLayAll0 ds = true ∧ PyData.depthAll ds ≤ n
  | n, [], _ => ⟨[], rfl, rfl, Nat.zero_le _⟩
  | n, x :: xs, h => by
    have h' : plainV n x = true ∧ plainVs n xs = true := by simpa [plainVs] using h
    obtain ⟨d, e, l, k⟩ := plainV_ok n x h'.1
    obtain ⟨ds, es, ls, ks⟩ := plainVs_ok n xs h'.2
    refine ⟨d :: ds, by unfold pvDs; rw [e, es]; rfl, by simp [PyData.canLayAll0, l, ls], by simp only [PyData.depthAll]; omega⟩
end
theorem plainVs_all {n : Nat} : ∀ {xs : List PV}, (∀ x ∈ xs, plainV n x = true) → plainVs n xs = true
  | [], _ => rfl
  | x :: xs, h => by
    unfold plainVs
    rw [h x List.mem_cons_self, plainVs_all fun y hy => h y (List.mem_cons_of_mem _ hy)]
    rfl
theorem eq_plain {xs : List PV} (h : plainV 60 (.tup xs) = true) : pEq (.tup xs) (.tup xs) = some (.bl true) := by
  obtain ⟨d, e, l, k⟩ := plainV_ok 60 _ h
  have eb : eqB (.tup xs) (.tup xs) = some true := by
    show eqD _ _ = _
    unfold eqD
    rw [e]
    dsimp only
    rw [if_pos ⟨shaped_of l k, shaped_of l k⟩, SeqAt.eqv_refl d l]
  unfold pEq
  rw [eb]
  rfl
theorem stv_plain (S : List (List CellT)) : plainV 60 (stv true S) = true := by
  unfold stv sq
  simp only [if_true]
  unfold plainV
  refine plainVs_all fun x hx => ?_
  obtain ⟨r, _, rfl⟩ := List.mem_map.mp hx
  unfold plainV
  refine plainVs_all fun x hx => ?_
  obtain ⟨c, _, rfl⟩ := List.mem_map.mp hx
  cases c with
  | none => rfl
  | some ns =>
    unfold cellP plainV
    refine plainVs_all fun x hx => ?_
    obtain ⟨i, _, rfl⟩ := List.mem_map.mp hx
    rfl
theorem eq_same (a : Nat) (L : List Int) (S : List (List CellT)) : m_Plant_eq [.fz (opv a L S), .fz (opv a L S)] = .ret (.bl true, [.un, .un]) := by
  unfold m_Plant_eq
  rw [fnV_eq rfl]
  have e : pEq (stv true S) (stv true S) = some (.bl true) := eq_plain (stv_plain S)
  have e2 : pEq (lkP L) (lkP L) = some (.bl true) := by have := eq_tupI L L; simpa [lkP] using this
  simp [b_Plant_eq, truth, eFld, pEq_int, e, e2, outs, SV.own]
theorem eq_unlike (a : Nat) {L L' : List Int} (S : List (List CellT)) (h : L ≠ L') : m_Plant_eq [.fz (opv a L S), .fz (opv a L' S)] = .ret (.bl false, [.un, .un]) := by
  unfold m_Plant_eq
  rw [fnV_eq rfl]
  have e2 : pEq (lkP L) (lkP L') = some (.bl false) := by have := eq_tupI L L'; simpa [lkP, h] using this
  simp [b_Plant_eq, truth, eFld, pEq_int, e2, outs, SV.own]
theorem eq_seven (a : Nat) (L : List Int) (S : List (List CellT)) : m_Plant_eq [.fz (opv a L S), .fz (.int 7)] = .ret (.bl false, [.un, .un]) := by
  unfold m_Plant_eq
  rw [fnV_eq rfl]
  have e : pIsC 7 (.int 7) = some (.bl false) := rfl
  simp [b_Plant_eq, truth, e, outs, SV.own]
end k02

set_option Elab.async false
set_option linter.all false
set_option maxRecDepth 100000
set_option maxHeartbeats 1000000
namespace k02
open PySem PySem.Spec PyProof.Rows L2 VL
/-! ### offers -/
def offP (o : Int × List Int) : PV := .tup [.int o.1, lkP o.2]
structure OOk (n : Nat) (os : List (Int × List Int)) : Prop where
  l1 : 1 ≤ os.length
  l5 : os.length ≤ 5
  ok : ∀ o ∈ os, 0 ≤ o.1 ∧ o.1 ≤ 20 ∧ o.2.length = n ∧ ∀ i ∈ o.2, 0 ≤ i ∧ i ≤ 3
def offB (n : Nat) : PV → Bool
  | .tup [p, l] => btw p 0 20 && (tupn n l && arB (itemsOf l) 0 3)
  | _ => false
/-- an offer of which enough is known -/
def kof : PV → Bool
  | .tup [p, l] => kd p && kq l
  | v => kd v
theorem kof_kd {v : PV} (h : kof v = true) : kd v = true := by
  unfold kof at h
  split at h
  · rfl
  · exact h
theorem offer_ok {a : Nat} {L : List Int} (S : List (List CellT)) (v : PV) (h : kof v = true) : m_is_offer [.fz (opv a L S), .fz v] = .ret (.bl (offB L.length v), [.un, .un]) := by
  unfold m_is_offer
  rw [fnV_eq rfl]
  have e := tuple_ok v (kof_kd h) 2
  have e' : m_is_tuple_of [.fz v, .fz (.int 2)] = .ret (.bl (tupn 2 v), [.un, .un]) := e
  have el : pLen (lkP L) = some (.int L.length) := by simp [lkP, pLen]
  by_cases q : ∃ p l, v = .tup [p, l]
  · obtain ⟨p, l, rfl⟩ := q
    have h2 : kd p = true ∧ kq l = true := by simpa [kof] using h
    have x0 : pIx (.tup [p, l]) (.int 0) = some p := atI0 _ _
    have x1 : pIx (.tup [p, l]) (.int 1) = some l := atI1 _ _ _
    have b0 := btw_ok p h2.1 0 20
    rw [show tupn 2 (.tup [p, l]) = true from rfl] at e'
    have t1 := tuple_ok l (kq_kd h2.2) L.length
    cases hp : btw p 0 20 with
    | false =>
      rw [hp] at b0
      simp [b_is_offer, fzs, e', truth, x0, b0, offB, hp, outs, SV.own]
    | true =>
      rw [hp] at b0
      cases ht : tupn L.length l with
      | false =>
        rw [ht] at t1
        simp [b_is_offer, fzs, e', truth, x0, x1, b0, eFld, el, t1, offB, hp, ht, outs, SV.own]
      | true =>
        rw [ht] at t1
        have hl : isL l = true := by cases l <;> first | rfl | cases ht
        have q3 := are_ok l hl (kq_len h2.2) (kq_all h2.2) 0 3
        simp [b_is_offer, fzs, e', truth, x0, x1, b0, eFld, el, t1, q3, offB, hp, ht, outs, SV.own]
  · have t2 : tupn 2 v = false := by
      cases v with
      | tup xs =>
        match xs, q with
        | [], _ => rfl
        | [_], _ => rfl
        | [a, b], q => exact absurd ⟨a, b, rfl⟩ q
        | _ :: _ :: _ :: _, _ => simp [tupn]
      | _ => rfl
    have en : offB L.length v = false := by
      unfold offB
      split
      · exact absurd ⟨_, _, rfl⟩ q
      · rfl
    rw [t2] at e'
    simp [b_is_offer, fzs, e', truth, en, outs, SV.own]
def offsB (n : Nat) (v : PV) : Bool := lenB v 1 5 && (itemsOf v).all (offB n)
structure KOf (v : PV) : Prop where
  kd : kd v = true
  len : (itemsOf v).length ≤ 1000000
  all : ∀ x ∈ itemsOf v, kof x = true
theorem check_ok {a : Nat} {L : List Int} (S : List (List CellT)) (v : PV) (h : KOf v) : m_check_offers [.fz (opv a L S), .fz v] = if offsB L.length v = true then .ret (.non, [.un, .un]) else .raise (⟨4, [("given", v)]⟩, [.un, .un]) := by
  unfold m_check_offers
  rw [fnV_eq rfl]
  have e := list_of_ok v h.kd 1 5
  cases hb : lenB v 1 5 with
  | false =>
    rw [hb] at e
    simp [b_check_offers, fzs, e, truth, offsB, hb, outs, SV.own]
  | true =>
    have hi : items v = some (itemsOf v) := by
      have hk := h.kd
      cases v <;> first | rfl | (simp [lenB, lenOf] at hb; done) | cases hk
    have q := lLc_map (i := 2) (gi := iSeq (eVar 1)) (ge := eCall m_is_offer (aCons (eVar 0) (aCons (eVar 2) aNil))) (ρ := [.fz (opv a L S), .fz v, .un]) (xs := itemsOf v) (fun x => .bl (offB L.length x)) (by simp [hi]) (sl_le (by have := h.len; omega)) rfl
      (fun x hx => by simp [fzs, offer_ok S x (h.all x hx)])
    rw [hb] at e
    cases ha : (itemsOf v).all (offB L.length) <;> simp [b_check_offers, fzs, e, truth, q, pAll_bl, ha, offsB, hb, outs, SV.own]
theorem offP_ok {n : Nat} {o : Int × List Int} (h : 0 ≤ o.1 ∧ o.1 ≤ 20 ∧ o.2.length = n ∧ ∀ i ∈ o.2, 0 ≤ i ∧ i ≤ 3) : offB n (offP o) = true := by
  unfold offP offB
  dsimp only
  rw [show itemsOf (lkP o.2) = o.2.map .int from rfl, arB_of h.2.2.2]
  simp [btw, h.1, h.2.1, lkP, tupn, h.2.2.1]
theorem offP_kof (o : Int × List Int) (h : o.2.length ≤ 1000000) : kof (offP o) = true := by
  unfold offP kof
  dsimp only
  rw [lkP, kq_ints h]
  rfl
theorem offs_kof (b : Bool) {n : Nat} {os : List (Int × List Int)} (hn : n ≤ 24) (h : OOk n os) : KOf (sq b (os.map offP)) := by
  have l5 := h.l5
  refine ⟨by simp, by simp; omega, fun x hx => ?_⟩
  rw [sq_itemsOf] at hx
  obtain ⟨o, ho, rfl⟩ := List.mem_map.mp hx
  exact offP_kof o (by have := (h.ok o ho).2.2.1; omega)
theorem offs_ok (b : Bool) {n : Nat} {os : List (Int × List Int)} (h : OOk n os) : offsB n (sq b (os.map offP)) = true := by
  have l1 := h.l1
  have l5 := h.l5
  unfold offsB
  rw [sq_lenB, sq_itemsOf, List.length_map, List.all_map]
  have : (os.all (offB n ∘ offP)) = true := List.all_eq_true.mpr fun o ho => offP_ok (h.ok o ho)
  rw [this]
  simp
  omega
/-! ### what is shown -/
def shownL (os : List (Int × List Int)) (ch : List Int) (n : Nat) : List (List Int) := (List.range n).map fun s => ch.map fun at_ => (os.getD at_.toNat (0, [])).2.getD s 0
theorem ix_off (b : Bool) {n : Nat} {os : List (Int × List Int)} (h : OOk n os) {i : Int} (h0 : 0 ≤ i) (h1 : i < os.length) {s : Nat} (hs : s < n) :
    ∃ v w, pIx (sq b (os.map offP)) (.int i) = some v ∧ pIx v (.int 1) = some w ∧ pIx w (.int s) = some (.int ((os.getD i.toNat (0, [])).2.getD s 0)) := by
  obtain ⟨k, rfl⟩ := Int.eq_ofNat_of_zero_le h0
  have hk : k < os.length := by omega
  have ho := h.ok os[k] (List.getElem_mem hk)
  refine ⟨offP os[k], lkP os[k].2, ?_, atI1 _ _ _, ?_⟩
  · rw [sq_ix]
    exact atI_nat' (by rw [List.getElem?_map, List.getElem?_eq_getElem hk]; rfl)
  · have hl : s < os[k].2.length := by rw [ho.2.2.1]; exact hs
    refine (atI_nat' (x := PV.int (os[k].2[s])) (by rw [List.getElem?_map, List.getElem?_eq_getElem hl]; rfl) : atI (os[k].2.map PV.int) (s : Int) = _).trans ?_
    rw [Int.toNat_natCast, List.getD_eq_getElem?_getD (l := os), List.getElem?_eq_getElem hk]
    simp [List.getD_eq_getElem?_getD, List.getElem?_eq_getElem hl]
/-- a choice of places -/
structure ChOk (m : Nat) (ch : List Int) : Prop where
  lt : ∀ i ∈ ch, 0 ≤ i ∧ i < m
  asc : ch.Pairwise (· < ·)
  len : ch.length ≤ 5
def shownAt (os : List (Int × List Int)) (ch : List Int) (s : Nat) : List Int := ch.map fun at_ => (os.getD at_.toNat (0, [])).2.getD s 0
theorem shown_at (b : Bool) {n : Nat} {os : List (Int × List Int)} {ch : List Int} (h : OOk n os) (c : ChOk os.length ch) {s : Nat} (hs : s < n) {ρ : Env'} {jo jc ja js : Nat} (ho : ρ[jo]? = some (.fz (sq b (os.map offP)))) (hc : ρ[jc]? = some (.fz (lkP ch))) (hS : ρ[js]? = some (.fz (.int s))) (hw : ownAt ρ ja = false)
    (n1 : ja ≠ jo) (n2 : ja ≠ jc) (n3 : ja ≠ js) (hlt : ja < ρ.length) : lLc [ja] (iSeq (eVar jc)) (gN ja) gYes (eOp2 pIx (eOp2 pIx (eOp2 pIx (eVar jo) (eVar ja)) (eC (.int 1))) (eVar js)) ρ = .ret ((shownAt os ch s).map .int, ρ) := by
  have q := lLc_map (i := ja) (gi := iSeq (eVar jc)) (ge := eOp2 pIx (eOp2 pIx (eOp2 pIx (eVar jo) (eVar ja)) (eC (.int 1))) (eVar js)) (ρ := ρ) (xs := ch.map .int) (fun x => match x with | .int i => .int ((os.getD i.toNat (0, [])).2.getD s 0) | _ => .non) (by simp [hc, lkP, items]) (by rw [List.length_map]; exact sl_le (by have := c.len; omega)) hw
    (fun x hx => by
      obtain ⟨i, hi, rfl⟩ := List.mem_map.mp hx
      obtain ⟨v, w, e1, e2, e3⟩ := ix_off b h (c.lt i hi).1 (c.lt i hi).2 hs
      have g1 : (ρ.set ja (.fz (.int i)))[jo]? = some (.fz (sq b (os.map offP))) := by rw [List.getElem?_set_ne n1, ho]
      have g2 : (ρ.set ja (.fz (.int i)))[ja]? = some (.fz (.int i)) := by rw [List.getElem?_set_self hlt]
      have g3 : (ρ.set ja (.fz (.int i)))[js]? = some (.fz (.int s)) := by rw [List.getElem?_set_ne n3, hS]
      simp only [c_eOp2, c_eVar', g1, g2, g3, c_eC, Wp.ret_bind, e1, e2, e3, lift])
  rw [q]
  congr 2
  rw [List.map_map, shownAt, List.map_map]
  exact List.map_congr_left fun i _ => rfl
def kindsL (os : List (Int × List Int)) (ch : List Int) (n : Nat) : List (List Int) := srtU HT.lexLt (shownL os ch n)
theorem shownL_len (os : List (Int × List Int)) (ch : List Int) (n : Nat) : (shownL os ch n).length = n := by simp [shownL]
theorem shownL_each {os : List (Int × List Int)} {ch : List Int} {n : Nat} {t : List Int} (h : t ∈ shownL os ch n) : t.length = ch.length := by
  obtain ⟨s, _, rfl⟩ := List.mem_map.mp h
  exact List.length_map _
theorem kinds_ok (os : List (Int × List Int)) (ch : List Int) {n : Nat} (h1 : 1 ≤ n) (h24 : n ≤ 24) : lSS (.lst none ((shownL os ch n).map tupP)) = some ((kindsL os ch n).map tupP) := by
  refine lSS_tups (by rw [shownL_len]; exact h1) (by rw [shownL_len]; omega) ?_
  unfold okT
  rw [Bool.or_eq_true]
  cases ch with
  | nil =>
    left
    apply decide_eq_true
    have nd := srtU_pair linT (shownL os [] n)
    have all0 : ∀ t ∈ srtU HT.lexLt (shownL os [] n), t = [] := fun t ht => List.length_eq_zero_iff.mp (shownL_each ((srtU_mem linT t _).mp ht))
    exact match srtU HT.lexLt (shownL os [] n), nd, all0 with
    | [], _, _ => by simp
    | [x], _, _ => by simp
    | x :: y :: r, nd, all0 => by
      have := (List.pairwise_cons.mp nd).1 y (by simp)
      rw [all0 x (by simp), all0 y (by simp)] at this
      cases this
  | cons i ch =>
    right
    refine List.all_eq_true.mpr fun t ht => ?_
    have := shownL_each ((srtU_mem linT t _).mp ht)
    cases t with
    | nil => simp at this
    | cons _ _ => rfl
/-- a tuple's place among the kinds -/
def ixT (ts : List (List Int)) (t : List Int) : Int := match pIndex (.lst none (ts.map tupP)) (tupP t) with
  | some (.int j) => j
  | _ => 0
theorem ixT_ok {ts : List (List Int)} {t : List Int} (h : t ∈ ts) : pIndex (.lst none (ts.map tupP)) (tupP t) = some (.int (ixT ts t)) ∧ 0 ≤ ixT ts t ∧ ixT ts t < ts.length := by
  obtain ⟨j, e, hj⟩ := index_tups ts none t h
  have : ixT ts t = (j : Int) := by unfold ixT; rw [e]
  have hl := (List.getElem?_eq_some_iff.mp hj).1
  rw [this]
  exact ⟨e, by omega, by omega⟩
def newL (os : List (Int × List Int)) (ch : List Int) (n : Nat) : List Int := (shownL os ch n).map (ixT (kindsL os ch n))
theorem in_kinds {os : List (Int × List Int)} {ch : List Int} {n : Nat} {t : List Int} (h : t ∈ shownL os ch n) : t ∈ kindsL os ch n := (srtU_mem linT t _).mpr h
theorem newL_len (os : List (Int × List Int)) (ch : List Int) (n : Nat) : (newL os ch n).length = n := by rw [newL, List.length_map, shownL_len]
theorem index_all {os : List (Int × List Int)} {ch : List Int} {n : Nat} (h24 : n ≤ 24) {ρ : Env'} {jk js ja : Nat} (hk : ρ[jk]? = some (.fz (.lst none ((kindsL os ch n).map tupP)))) (hs : ρ[js]? = some (.fz (.lst none ((shownL os ch n).map tupP)))) (hw : ownAt ρ ja = false)
    (n1 : ja ≠ jk) (hlt : ja < ρ.length) : lLc [ja] (iSeq (eVar js)) (gN ja) gYes (eLstM pIndex (eVar jk) (eVar ja)) ρ = .ret ((newL os ch n).map .int, ρ) := by
  have q := lLc_map (i := ja) (gi := iSeq (eVar js)) (ge := eLstM pIndex (eVar jk) (eVar ja)) (ρ := ρ) (xs := (shownL os ch n).map tupP) (fun x => (pIndex (.lst none ((kindsL os ch n).map tupP)) x).getD .non) (by simp [hs, items]) (by rw [List.length_map, shownL_len]; exact sl_le (by omega)) hw
    (fun x hx => by
      obtain ⟨t, ht, rfl⟩ := List.mem_map.mp hx
      have e := (ixT_ok (in_kinds ht)).1
      have g1 : (ρ.set ja (.fz (tupP t)))[jk]? = some (.fz (.lst none ((kindsL os ch n).map tupP))) := by rw [List.getElem?_set_ne n1, hk]
      have g2 : (ρ.set ja (.fz (tupP t)))[ja]? = some (.fz (tupP t)) := by rw [List.getElem?_set_self hlt]
      simp only [c_eLstM, c_eVar', g1, g2, Wp.ret_bind, isLst, if_true, e, lift, Option.getD])
  rw [q]
  congr 2
  rw [List.map_map, newL, List.map_map]
  exact List.map_congr_left fun t ht => by
    show (pIndex _ (tupP t)).getD .non = PV.int (ixT _ t)
    rw [(ixT_ok (in_kinds ht)).1]
    rfl
theorem newL_ok {a : Nat} {L : List Int} {S : List (List CellT)} (o : POk a L S) (os : List (Int × List Int)) (ch : List Int) (h8 : (kindsL os ch L.length).length ≤ 8) : POk a (newL os ch L.length) S where
  a1 := o.a1
  a6 := o.a6
  l1 := by rw [newL_len]; exact o.l1
  l24 := by rw [newL_len]; exact o.l24
  look := fun i hi => by
    obtain ⟨t, ht, rfl⟩ := List.mem_map.mp hi
    have := (ixT_ok (in_kinds ht)).2
    omega
  slen := by rw [newL_len]; exact o.slen
  row := o.row
  cell := fun r hr c hc => by rw [newL_len]; exact o.cell r hr c hc
end k02

set_option Elab.async false
set_option linter.all false
set_option maxRecDepth 100000
set_option maxHeartbeats 1000000
namespace k02
open PySem PySem.Spec PyProof.Rows L2 VL
/-! ### the bought plant -/
theorem opv_eq (a : Nat) (L : List Int) (S : List (List CellT)) : PV.ins 7 (fvP a L S) = opv a L S := rfl
theorem lkP_tup (a : List Int) : pTuple (.lst none (a.map .int)) = some (lkP a) := rfl
theorem tupP_lk (a : List Int) : lkP a = tupP a := rfl
theorem bought_ok {a : Nat} {L : List Int} {S : List (List CellT)} (o : POk a L S) (b : Bool) {os : List (Int × List Int)} (h : OOk L.length os) {ch : List Int} (c : ChOk os.length ch) :
    m_bought [.fz (opv a L S), .fz (sq b (os.map offP)), .fz (lkP ch)] = if 8 < (kindsL os ch L.length).length then .raise (⟨6, [("count", .int (kindsL os ch L.length).length)]⟩, [.un, .un, .un]) else .ret (opv a (newL os ch L.length) S, [.un, .un, .un]) := by
  unfold m_bought
  rw [fnV_eq rfl]
  have l24 := o.l24
  have el : pLen (lkP L) = some (.int L.length) := by simp [lkP, pLen]
  have e1 : lLc [5] (iRng (eOp1 pLen (eFld flds_Plant "looks" 7 (eVar 0)))) (gN 5) (gYes) (eOp1 pTuple (eLst (lLc [6] (iSeq (eVar 2)) (gN 6) (gYes) (eOp2 pIx (eOp2 pIx (eOp2 pIx (eVar 1) (eVar 6)) (eC (.int 1))) (eVar 5))))) [.fz (opv a L S), .fz (sq b (os.map offP)), .fz (lkP ch), .un, .un, .un, .un, .un] =
      .ret ((shownL os ch L.length).map tupP, [.fz (opv a L S), .fz (sq b (os.map offP)), .fz (lkP ch), .un, .un, .un, .un, .un]) := by
    have q := lLc_gen (ii := [5]) (gi := iRng (eOp1 pLen (eFld flds_Plant "looks" 7 (eVar 0)))) (f := gN 5) (gt := gYes) (ge := eOp1 pTuple (eLst (lLc [6] (iSeq (eVar 2)) (gN 6) (gYes) (eOp2 pIx (eOp2 pIx (eOp2 pIx (eVar 1) (eVar 6)) (eC (.int 1))) (eVar 5)))))
      (ρ := [.fz (opv a L S), .fz (sq b (os.map offP)), .fz (lkP ch), .un, .un, .un, .un, .un]) (xs := (List.range L.length).map fun (k : Nat) => PV.int k) (fun ρ => ∃ u, ρ = [.fz (opv a L S), .fz (sq b (os.map offP)), .fz (lkP ch), .un, .un, u, .un, .un]) (fun _ => true) (fun x => match x with | .int s => tupP (shownAt os ch s.toNat) | _ => .non)
      (by simp [eFld, el, iRange_len (sl_le (show L.length ≤ 16777216 by omega))]) (by rw [List.length_map, List.length_range]; exact sl_le (by omega)) rfl ⟨_, rfl⟩ (fun x hx ρ1 ⟨u, e⟩ => by
        obtain ⟨s, hs, rfl⟩ := mem_range_int hx
        subst e
        refine ⟨[.fz (opv a L S), .fz (sq b (os.map offP)), .fz (lkP ch), .un, .un, .fz (.int s), .un, .un], rfl, ⟨_, rfl⟩, rfl, fun _ => ?_⟩
        have q := shown_at b h c hs (ρ := [.fz (opv a L S), .fz (sq b (os.map offP)), .fz (lkP ch), .un, .un, .fz (.int s), .un, .un]) (jo := 1) (jc := 2) (ja := 6) (js := 5) rfl rfl rfl rfl (by decide) (by decide) (by decide) (by simp)
        rw [c_eOp1, c_eLst, q]
        simp [lkP_tup, tupP_lk]) (fun ρ1 ⟨u, e⟩ => by rw [e]; rfl)
    rw [q, filter_all fun _ _ => rfl, List.map_map, shownL, List.map_map]
    congr 2
  have e2 := kinds_ok os ch o.l1 l24
  have e3 := index_all (os := os) (ch := ch) l24 (ρ := [.fz (opv a L S), .fz (sq b (os.map offP)), .fz (lkP ch), .fz (.lst none ((shownL os ch L.length).map tupP)), .fz (.lst none ((kindsL os ch L.length).map tupP)), .un, .un, .un]) (jk := 4) (js := 3) (ja := 7) rfl rfl rfl (by decide) (by simp)
  have e4 : pLen (.lst none ((kindsL os ch L.length).map tupP)) = some (.int (kindsL os ch L.length).length) := by simp [pLen]
  by_cases hk : 8 < (kindsL os ch L.length).length
  · have hk' : (8 : Int) < (kindsL os ch L.length).length := by omega
    simp [b_bought, e1, e2, e4, pAdd, pGt, hk, hk', outs, SV.own]
  · have hk' : ¬ (8 : Int) < (kindsL os ch L.length).length := by omega
    have p := plant_ok true (newL_ok o os ch (by omega))
    simp [b_bought, e1, e2, e3, e4, pAdd, pGt, hk, hk', lkP_tup, eFld, eNew, p, opv_eq, outs, SV.own]
theorem bp_ok {a : Nat} {L : List Int} {S : List (List CellT)} (o : POk a L S) (b : Bool) {os : List (Int × List Int)} (h : OOk L.length os) {ch : List Int} (c : ChOk os.length ch) :
    m_bought_plant [.fz (opv a L S), .fz (sq b (os.map offP)), .fz (lkP ch)] = if 8 < (kindsL os ch L.length).length then .raise (⟨6, [("count", .int (kindsL os ch L.length).length)]⟩, [.un, .un, .un]) else .ret (opv a (newL os ch L.length) S, [.un, .un, .un]) := by
  unfold m_bought_plant
  rw [fnV_eq rfl]
  have q1 := check_ok S (sq b (os.map offP)) (offs_kof b o.l24 h) (a := a) (L := L)
  rw [if_pos (offs_ok b h)] at q1
  have q2 := states_ok (lkP ch) (kq_ints (by have := c.len; omega)) os.length
  rw [lkP, stB_of (n := os.length) c.lt c.asc] at q2
  have q2' : m_is_states [.fz (lkP ch), .fz (.int os.length)] = .ret (.bl true, [.un, .un]) := q2
  have q3 := bought_ok o b h c
  by_cases hk : 8 < (kindsL os ch L.length).length
  · rw [if_pos hk] at q3
    simp [b_bought_plant, sDrop, fzs, q1, q2', truth, q3, hk, outs, SV.own]
  · rw [if_neg hk] at q3
    simp [b_bought_plant, sDrop, fzs, q1, q2', truth, q3, hk, outs, SV.own]
theorem bp_offers {a : Nat} {L : List Int} (S : List (List CellT)) (v c : PV) (h : KOf v) (hb : offsB L.length v = false) : m_bought_plant [.fz (opv a L S), .fz v, .fz c] = .raise (⟨4, [("given", v)]⟩, [.un, .un, .un]) := by
  unfold m_bought_plant
  rw [fnV_eq rfl]
  have q1 := check_ok S v h (a := a) (L := L)
  rw [hb] at q1
  simp at q1
  simp [b_bought_plant, sDrop, fzs, q1, outs, SV.own]
theorem bp_chosen {a : Nat} {L : List Int} (S : List (List CellT)) (l24 : L.length ≤ 24) (b : Bool) {os : List (Int × List Int)} (h : OOk L.length os) (v : PV) (hv : kq v = true) (hb : stB os.length v = false) :
    m_bought_plant [.fz (opv a L S), .fz (sq b (os.map offP)), .fz v] = .raise (⟨2, [("given", v)]⟩, [.un, .un, .un]) := by
  unfold m_bought_plant
  rw [fnV_eq rfl]
  have q1 := check_ok S (sq b (os.map offP)) (offs_kof b l24 h) (a := a) (L := L)
  rw [if_pos (offs_ok b h)] at q1
  have q2 := states_ok v hv os.length
  rw [hb] at q2
  simp [b_bought_plant, sDrop, fzs, q1, q2, truth, outs, SV.own]
/-! ### asked -/
theorem asked_ret {p o c v : PV} {us : List SV} (nm : Bool) (h : m_bought_plant [.fz p, .fz o, .fz c] = .ret (v, us)) : m__law_asked [.fz p, .fz o, .fz c, .fz (.bl nm)] = .ret (.lst none [.str "told", v], [.un, .un, .un, .un]) := by
  unfold m__law_asked
  rw [fnV_eq rfl]
  have pe : perm PV.non [2, 1, 0] [c, o, p] = [p, o, c] := rfl
  have g : (sSeq (sIf (gVal (eVar 3)) (sRet (eLst (lDisp (aCons (eC (.str "told")) (aCons (eCallK m_bought_plant [2, 1, 0] (aCons (eVar 2) (aCons (eVar 1) (aCons (eVar 0) (aNil))))) (aNil)))))) (sNil)) (sRet (eLst (lDisp (aCons (eC (.str "told")) (aCons (eCall m_bought_plant (aCons (eVar 0) (aCons (eVar 1) (aCons (eVar 2) (aNil))))) (aNil))))))) [.fz p, .fz o, .fz c, .fz (.bl nm), .un] =
      .ret (.rt (.lst none [.str "told", v]) [.fz p, .fz o, .fz c, .fz (.bl nm), .un]) := by
    cases nm <;> simp [truth, fzs, pe, h]
  have q := try_ret (ex := exT) (hs := [⟨4, some 4, .many [.c (.str "offers"), .f "given"]⟩, ⟨2, some 4, .many [.c (.str "chosen"), .f "given"]⟩, ⟨6, some 4, .many [.c (.str "many"), .f "count"]⟩, ⟨0, none, .many [.c (.str "another error")]⟩]) g
  simp only [List.replicate, List.length_cons, List.length_nil, List.cons_append, List.nil_append, Nat.reduceAdd, Nat.reduceSub, b__law_asked, q, Wp.mapE_ret, Wp.ret_bind]
  rfl
theorem asked_raise {p o c w : PV} {x : Ex} {us : List SV} (nm : Bool) (h : m_bought_plant [.fz p, .fz o, .fz c] = .raise (x, us)) (hp : pick exT x [⟨4, some 4, .many [.c (.str "offers"), .f "given"]⟩, ⟨2, some 4, .many [.c (.str "chosen"), .f "given"]⟩, ⟨6, some 4, .many [.c (.str "many"), .f "count"]⟩, ⟨0, none, .many [.c (.str "another error")]⟩] = some (some w)) :
    m__law_asked [.fz p, .fz o, .fz c, .fz (.bl nm)] = .ret (w, [.un, .un, .un, .un]) := by
  unfold m__law_asked
  rw [fnV_eq rfl]
  have pe : perm PV.non [2, 1, 0] [c, o, p] = [p, o, c] := rfl
  have g : (sSeq (sIf (gVal (eVar 3)) (sRet (eLst (lDisp (aCons (eC (.str "told")) (aCons (eCallK m_bought_plant [2, 1, 0] (aCons (eVar 2) (aCons (eVar 1) (aCons (eVar 0) (aNil))))) (aNil)))))) (sNil)) (sRet (eLst (lDisp (aCons (eC (.str "told")) (aCons (eCall m_bought_plant (aCons (eVar 0) (aCons (eVar 1) (aCons (eVar 2) (aNil))))) (aNil))))))) [.fz p, .fz o, .fz c, .fz (.bl nm), .un] =
      .raise (x, [.fz p, .fz o, .fz c, .fz (.bl nm), .un]) := by
    cases nm <;> simp [truth, fzs, pe, h]
  have q := try_raise (ex := exT) (e := (x, [SV.fz p, .fz o, .fz c, .fz (.bl nm), .un])) g hp
  simp only [List.replicate, List.length_cons, List.length_nil, List.cons_append, List.nil_append, Nat.reduceAdd, Nat.reduceSub, b__law_asked, q, Wp.mapE_ret, Wp.ret_bind]
  rfl
theorem asked_good {a : Nat} {L : List Int} {S : List (List CellT)} (o : POk a L S) (b nm : Bool) {os : List (Int × List Int)} (h : OOk L.length os) {ch : List Int} (c : ChOk os.length ch) :
    m__law_asked [.fz (opv a L S), .fz (sq b (os.map offP)), .fz (lkP ch), .fz (.bl nm)] = .ret ((if 8 < (kindsL os ch L.length).length then .lst none [.str "many", .int (kindsL os ch L.length).length] else .lst none [.str "told", opv a (newL os ch L.length) S]), [.un, .un, .un, .un]) := by
  have q := bp_ok o b h c
  by_cases hk : 8 < (kindsL os ch L.length).length
  · rw [if_pos hk] at q ⊢
    exact asked_raise nm q (by rfl)
  · rw [if_neg hk] at q ⊢
    exact asked_ret nm q
theorem asked_offers {a : Nat} {L : List Int} (S : List (List CellT)) (nm : Bool) (v c : PV) (h : KOf v) (hb : offsB L.length v = false) : m__law_asked [.fz (opv a L S), .fz v, .fz c, .fz (.bl nm)] = .ret (.lst none [.str "offers", v], [.un, .un, .un, .un]) :=
  asked_raise nm (bp_offers S v c h hb) (by rfl)
theorem asked_chosen {a : Nat} {L : List Int} (S : List (List CellT)) (nm : Bool) (l24 : L.length ≤ 24) (b : Bool) {os : List (Int × List Int)} (h : OOk L.length os) (v : PV) (hv : kq v = true) (hb : stB os.length v = false) :
    m__law_asked [.fz (opv a L S), .fz (sq b (os.map offP)), .fz v, .fz (.bl nm)] = .ret (.lst none [.str "chosen", v], [.un, .un, .un, .un]) :=
  asked_raise nm (bp_chosen S l24 b h v hv hb) (by rfl)
/-! ### due -/
def plv (a : Nat) (L : List Int) (S : List (List CellT)) : PV := .lst none [.int a, lkP L, stv false S]
theorem plv_0 (a : Nat) (L : List Int) (S : List (List CellT)) : pIx (plv a L S) (.int 0) = some (.int a) := atI0 _ _
theorem plv_1 (a : Nat) (L : List Int) (S : List (List CellT)) : pIx (plv a L S) (.int 1) = some (lkP L) := atI1 _ _ _
theorem plv_2 (a : Nat) (L : List Int) (S : List (List CellT)) : pIx (plv a L S) (.int 2) = some (stv false S) := atI2 _ _ _ _
theorem due_ok {a : Nat} {L : List Int} {S : List (List CellT)} (o : POk a L S) {os : List (Int × List Int)} (h : OOk L.length os) {ch : List Int} (c : ChOk os.length ch) :
    m__law_due [.fz (plv a L S), .fz (.lst none (os.map offP)), .fz (lkP ch)] = .ret ((if 8 < (kindsL os ch L.length).length then .lst none [.str "many", .int (kindsL os ch L.length).length] else .lst none [.str "told", lkP (newL os ch L.length)]), [.un, .un, .un]) := by
  unfold m__law_due
  rw [fnV_eq rfl]
  have l24 := o.l24
  have el : pLen (stv false S) = some (.int L.length) := by rw [stv, sq_len, List.length_map, o.slen]
  have lp : ∃ x4, forLoop (gN 4) (sAppO 3 (eOp1 pTuple (eLst (lLc [6] (iSeq (eVar 2)) (gN 6) (gYes) (eOp2 pIx (eOp2 pIx (eOp2 pIx (eVar 1) (eVar 6)) (eC (.int 1))) (eVar 4)))))) ((List.range L.length).map fun (k : Nat) => PV.int k) [.fz (plv a L S), .fz (.lst none (os.map offP)), .fz (lkP ch), .ow [], .un, .un, .un, .un] =
      .ret (.nx [.fz (plv a L S), .fz (.lst none (os.map offP)), .fz (lkP ch), .ow ((shownL os ch L.length).map tupP), x4, .un, .un, .un]) := by
    obtain ⟨ρ', ⟨x4, e⟩, hh⟩ := for_det (f := gN 4) (g := sAppO 3 (eOp1 pTuple (eLst (lLc [6] (iSeq (eVar 2)) (gN 6) (gYes) (eOp2 pIx (eOp2 pIx (eOp2 pIx (eVar 1) (eVar 6)) (eC (.int 1))) (eVar 4))))))
      (fun j ρ => ∃ x4, ρ = [.fz (plv a L S), .fz (.lst none (os.map offP)), .fz (lkP ch), .ow (((shownL os ch L.length).take j).map tupP), x4, .un, .un, .un]) ((List.range L.length).map fun (k : Nat) => PV.int k) 0 [.fz (plv a L S), .fz (.lst none (os.map offP)), .fz (lkP ch), .ow [], .un, .un, .un, .un] ⟨.un, by simp⟩ fun j x hx ρ1 ⟨x4, e⟩ => by
        obtain ⟨hj, rfl⟩ := range_at hx
        subst e
        rw [Nat.zero_add]
        refine ⟨[.fz (plv a L S), .fz (.lst none (os.map offP)), .fz (lkP ch), .ow (((shownL os ch L.length).take j).map tupP), .fz (.int j), .un, .un, .un], _, rfl, ?_, .fz (.int j), rfl⟩
        have q := shown_at false h c hj (ρ := [.fz (plv a L S), .fz (.lst none (os.map offP)), .fz (lkP ch), .ow (((shownL os ch L.length).take j).map tupP), .fz (.int j), .un, .un, .un]) (jo := 1) (jc := 2) (ja := 6) (js := 4) rfl rfl rfl rfl (by decide) (by decide) (by decide) (by simp)
        have lz : (((shownL os ch L.length).take j).map tupP).length < sizeLine := by rw [List.length_map, List.length_take, shownL_len, sizeLine_eq]; omega
        have ej : (shownL os ch L.length)[j]? = some (shownAt os ch j) := by rw [shownL, List.getElem?_map, List.getElem?_range hj]; rfl
        rw [List.take_succ, ej, List.map_append]
        generalize ((shownL os ch L.length).take j).map tupP = R at *
        rw [c_sAppO, if_pos (show ownAt [SV.fz (plv a L S), .fz (.lst none (os.map offP)), .fz (lkP ch), .ow R, .fz (.int j), .un, .un, .un] 3 = true from rfl), c_eOp1, c_eLst, q]
        simp [lkP_tup, tupP_lk, lz]
    rw [Nat.zero_add, List.length_map, List.length_range] at e
    rw [List.take_of_length_le (by rw [shownL_len]; exact Nat.le_refl _)] at e
    subst e
    exact ⟨x4, hh⟩
  obtain ⟨x4, lp⟩ := lp
  have e2 := kinds_ok os ch o.l1 l24
  have e3 := index_all (os := os) (ch := ch) l24 (ρ := [.fz (plv a L S), .fz (.lst none (os.map offP)), .fz (lkP ch), .fz (.lst none ((shownL os ch L.length).map tupP)), x4, .fz (.lst none ((kindsL os ch L.length).map tupP)), .un, .un]) (jk := 5) (js := 3) (ja := 7) rfl rfl rfl (by decide) (by simp)
  have e4 : pLen (.lst none ((kindsL os ch L.length).map tupP)) = some (.int (kindsL os ch L.length).length) := by simp [pLen]
  have rg := iRange_len (sl_le (show L.length ≤ 16777216 by omega))
  by_cases hk : 8 < (kindsL os ch L.length).length
  · have hk' : ¬ ((kindsL os ch L.length).length : Int) < 9 := by omega
    simp [b__law_due, plv_2, el, rg, lp, e2, e4, pLtT, hk, hk', outs, SV.own]
  · have hk' : ((kindsL os ch L.length).length : Int) < 9 := by omega
    simp [b__law_due, plv_2, el, rg, lp, e2, e3, e4, pLtT, hk, hk', lkP_tup, outs, SV.own]
end k02

set_option Elab.async false
set_option linter.all false
set_option maxRecDepth 100000
set_option maxHeartbeats 1000000
namespace k02
open PySem PySem.Spec PyProof.Rows L2 VL
/-! ### the law's look at a plant -/
theorem stv_smz (b : Bool) {a : Nat} {L : List Int} {S : List (List CellT)} (o : POk a L S) (n : Nat) : smz (n + 5) (stv b S) = true := by
  have s24 : S.length ≤ 24 := by rw [o.slen]; exact o.l24
  have row : ∀ x ∈ S.map fun r => sq b (r.map cellP), smz (n + 4) x = true := fun x hx => by
    obtain ⟨r, hr, rfl⟩ := List.mem_map.mp hx
    have l6 : r.length ≤ 6 := by rw [o.row r hr]; exact o.a6
    have cell : ∀ x ∈ r.map cellP, smz (n + 3) x = true := fun x hx => by
      obtain ⟨c, hc, rfl⟩ := List.mem_map.mp hx
      cases c with
      | none => rfl
      | some ns => exact smz_ints (by have := ((o.cell r hr _ hc).ok ns rfl).2.1; omega)
    cases b
    · exact smz_lst (by rw [List.length_map]; omega) cell
    · exact smz_tup (by rw [List.length_map]; omega) cell
  cases b
  · exact smz_lst (by rw [List.length_map]; omega) row
  · exact smz_tup (by rw [List.length_map]; omega) row
theorem lkP_smz {L : List Int} (h : L.length ≤ 24) (n : Nat) : smz (n + 2) (lkP L) = true := smz_ints (by omega)
theorem frozen_ok {a : Nat} {L : List Int} {S : List (List CellT)} (o : POk a L S) : m__law_frozen [.fz (stv false S)] = .ret (stv true S, [.un]) := by
  unfold m__law_frozen
  rw [fnV_eq rfl]
  have s24 : S.length ≤ 24 := by rw [o.slen]; exact o.l24
  have wl : (S.map fun r => sq false (r.map cellP)).length = S.length := List.length_map _
  have e1 : lLc [1] (iSeq (eVar 0)) (gN 1) (gYes) (eOp1 pTuple (eVar 1)) [SV.fz (stv false S), .un] = .ret ((S.map fun r => sq false (r.map cellP)).map fun x => (pTuple x).getD .non, [SV.fz (stv false S), .un]) := by
    refine lLc_map _ (by simp [stv]) (by rw [wl]; exact sl_le (by omega)) rfl fun x hx => ?_
    obtain ⟨r, hr, rfl⟩ := List.mem_map.mp hx
    simp
  have e2 : ((S.map fun r => sq false (r.map cellP)).map fun x => (pTuple x).getD .non) = S.map fun r => sq true (r.map cellP) := by
    rw [List.map_map]
    exact List.map_congr_left fun r _ => rfl
  rw [e2] at e1
  have e5 : pTuple (.lst none (S.map fun r => sq true (r.map cellP))) = some (stv true S) := rfl
  simp [b__law_frozen, e1, e5, outs, SV.own]
def othL : List Int → List Int
  | [] => []
  | i :: r => (if i < 7 then i + 1 else 6) :: r
theorem othL_ne {L : List Int} (h1 : 1 ≤ L.length) (h : ∀ i ∈ L, 0 ≤ i ∧ i ≤ 7) : L ≠ othL L := by
  cases L with
  | nil => simp at h1
  | cons i r =>
    intro e
    have hi := h i List.mem_cons_self
    have e1 : i = if i < 7 then i + 1 else 6 := (List.cons.inj e).1
    split at e1 <;> omega
theorem othL_ok {a : Nat} {L : List Int} {S : List (List CellT)} (o : POk a L S) : POk a (othL L) S := by
  have el : (othL L).length = L.length := by cases L <;> rfl
  refine ⟨o.a1, o.a6, by rw [el]; exact o.l1, by rw [el]; exact o.l24, fun i hi => ?_, by rw [el]; exact o.slen, o.row, fun r hr c hc => by rw [el]; exact o.cell r hr c hc⟩
  cases L with
  | nil => cases hi
  | cons j r =>
    have hj := o.look j List.mem_cons_self
    rcases List.mem_cons.mp hi with e | e
    · subst e
      split <;> omega
    · exact o.look i (List.mem_cons_of_mem _ e)
theorem isp_ok {a : Nat} {L : List Int} {S : List (List CellT)} (o : POk a L S) : m__law_is_plant [.fz (opv a L S), .fz (.int a), .fz (lkP L), .fz (stv false S)] = .ret (.bl true, [.un, .un, .un, .un]) := by
  unfold m__law_is_plant
  rw [fnV_eq rfl]
  have q1 := frozen_ok o
  have s1 := same_run (sm_refl 12 (.lst none [.int a, lkP L, stv true S]) (smz_lst (by simp) fun x hx => by
    simp only [List.mem_cons, List.not_mem_nil, or_false] at hx
    rcases hx with rfl | rfl | rfl
    · rfl
    · exact lkP_smz o.l24 9
    · exact stv_smz true o 6))
  have s2 := same_run (sm_refl 12 (.lst none [.bl true, .bl true, .bl false, .bl false, .bl false]) (by decide +kernel))
  have p1 := plant_ok false o
  have p2 := plant_ok false (othL_ok o)
  obtain ⟨i, r, eL⟩ : ∃ i r, L = i :: r := by
    cases e : L with
    | nil => have := o.l1; rw [e] at this; simp at this
    | cons i r => exact ⟨i, r, rfl⟩
  have l24 := o.l24
  have x0 : pIx (lkP L) (.int 0) = some (.int i) := by rw [eL]; exact atI0 _ _
  have x1 : pSl (lkP L) (some 1) none = some (lkP r) := by
    rw [eL]
    show pSl (.tup ((i :: r).map PV.int)) (some ((1 : Nat) : Int)) none = _
    rw [pSl_tup, cut_from _ (by simp)]
    rfl
  have x2 : pAdd (.tup [.int (if i < 7 then i + 1 else 6)]) (lkP r) = some (lkP (othL L)) := by
    rw [eL]
    exact pAdd_tup (by rw [eL] at l24; simp at l24 ⊢; omega)
  have ne := othL_ne o.l1 o.look
  have g1 := eq_same a L S
  have g2 := eq_unlike a S ne
  have g3 := eq_unlike a S (Ne.symm ne)
  have g4 := eq_seven a L S
  have ok7 : okR 7 (.int 7) = true := rfl
  have ho : ∀ fs, PV.ins 7 fs = .ins 7 fs := fun _ => rfl
  have lt7 : pLtT (.int i) (.int 7) = some (.bl (decide (i < 7))) := rfl
  have oe : eEqI 7 m_Plant_eq = eEqI 7 m_Plant_eq := rfl
  have gg : ∀ (x y : PV) (z : Bool) (ga gb : GE) (ρ : Env'), (∃ fs, x = .ins 7 fs) → okR 7 y = true → ga ρ = .ret (x, ρ) → gb ρ = .ret (y, ρ) → m_Plant_eq [.fz x, .fz y] = .ret (.bl z, [.un, .un]) → eEqI 7 m_Plant_eq ga gb ρ = .ret (.bl z, ρ) := by
    rintro x y z ga gb ρ ⟨fs, rfl⟩ hok e1 e2 e3
    unfold eEqI
    rw [e1, Wp.ret_bind]
    dsimp only
    rw [e2, Wp.ret_bind]
    dsimp only
    rw [if_pos ⟨rfl, hok⟩, e3]
    rfl
  have h1 := gg (opv a L S) (opv a L S) true (eVar 0) (eVar 4) [.fz (opv a L S), .fz (.int a), .fz (lkP L), .fz (stv false S), .fz (opv a L S), .fz (opv a (othL L) S)] ⟨_, rfl⟩ (by first | rfl | simp) (by simp) (by simp) g1
  have h2 := gg (opv a L S) (opv a L S) true (eVar 4) (eVar 0) [.fz (opv a L S), .fz (.int a), .fz (lkP L), .fz (stv false S), .fz (opv a L S), .fz (opv a (othL L) S)] ⟨_, rfl⟩ (by first | rfl | simp) (by simp) (by simp) g1
  have h3 := gg (opv a L S) (opv a (othL L) S) false (eVar 0) (eVar 5) [.fz (opv a L S), .fz (.int a), .fz (lkP L), .fz (stv false S), .fz (opv a L S), .fz (opv a (othL L) S)] ⟨_, rfl⟩ (by first | rfl | simp) (by simp) (by simp) g2
  have h4 := gg (opv a (othL L) S) (opv a L S) false (eVar 5) (eVar 0) [.fz (opv a L S), .fz (.int a), .fz (lkP L), .fz (stv false S), .fz (opv a L S), .fz (opv a (othL L) S)] ⟨_, rfl⟩ (by first | rfl | simp) (by simp) (by simp) g3
  have h5 := gg (opv a L S) (.int 7) false (eVar 0) (eC (.int 7)) [.fz (opv a L S), .fz (.int a), .fz (lkP L), .fz (stv false S), .fz (opv a L S), .fz (opv a (othL L) S)] ⟨_, rfl⟩ (by first | rfl | simp) (by simp) (by simp) g4
  by_cases h7 : i < 7
  · rw [if_pos h7] at x2
    simp [b__law_is_plant, fzs, q1, s1, truth, p1, x0, lt7, h7, pAdd_int, x1, x2, p2, opv_eq, h1, h2, h3, h4, h5, s2, outs, SV.own]
  · rw [if_neg h7] at x2
    simp [b__law_is_plant, fzs, q1, s1, truth, p1, x0, lt7, h7, x1, x2, p2, opv_eq, h1, h2, h3, h4, h5, s2, outs, SV.own]
/-! ### offers as a text -/
theorem offs_data (os : List (Int × List Int)) : pvDs (os.map offP) = some (os.map fun o => .tuple [.int o.1, .tuple (o.2.map .int)]) := by
  induction os with
  | nil => rfl
  | cons o os ih =>
    have e : pvD (offP o) = some (.tuple [.int o.1, .tuple (o.2.map .int)]) := by
      simp [offP, lkP, pvD, pvDs, pvDs_ints]
    rw [List.map_cons, pvDs, e, ih]
    rfl
theorem repr_ok {n : Nat} {os : List (Int × List Int)} (hn : n ≤ 24) (h : OOk n os) : ∃ z : PySem.Str, pRepr (.lst none (os.map offP)) = some (.str z) := by
  have l5 := h.l5
  unfold pRepr
  dsimp only
  rw [offs_data]
  have sh : ∀ ns : List Int, (∀ i ∈ ns, 0 ≤ i ∧ i < 1000) → PyData.showableAll (ns.map PyData.int) = true := fun ns hs => by
    induction ns with
    | nil => rfl
    | cons i ns ih =>
      have hi := hs i List.mem_cons_self
      have : i.natAbs.log2 < 1920 := Nat.lt_of_lt_of_le (log2_lt' (m := 10) (by omega) (by decide)) (by decide)
      rw [List.map_cons, PyData.showableAll, ih fun j hj => hs j (List.mem_cons_of_mem _ hj)]
      simp [PyData.showable, this]
  have nd : ∀ ns : List Int, PyData.hasDictAll (ns.map PyData.int) = false := fun ns => by
    induction ns with
    | nil => rfl
    | cons i ns ih => rw [List.map_cons, PyData.hasDictAll, ih]; rfl
  have o1 : ∀ o ∈ os, 0 ≤ o.1 ∧ o.1 < 1000 ∧ o.2.length ≤ 24 ∧ ∀ i ∈ o.2, 0 ≤ i ∧ i < 1000 := fun o ho => by
    obtain ⟨h1, h2, h3, h4⟩ := h.ok o ho
    exact ⟨h1, by omega, by omega, fun i hi => by have := h4 i hi; omega⟩
  have s1 : PyData.showableAll (os.map fun o => .tuple [.int o.1, .tuple (o.2.map .int)]) = true := by
    clear h l5
    induction os with
    | nil => rfl
    | cons o os ih =>
      obtain ⟨h1, h2, h3, h4⟩ := o1 o List.mem_cons_self
      have : o.1.natAbs.log2 < 1920 := Nat.lt_of_lt_of_le (log2_lt' (m := 10) (by omega) (by decide)) (by decide)
      rw [List.map_cons, PyData.showableAll, ih fun x hx => o1 x (List.mem_cons_of_mem _ hx)]
      simp [PyData.showable, PyData.showableAll, sh o.2 h4, this]
  have s2 : PyData.hasDictAll (os.map fun o => .tuple [.int o.1, .tuple (o.2.map .int)]) = false := by
    clear h l5 o1 s1
    induction os with
    | nil => rfl
    | cons o os ih =>
      rw [List.map_cons, PyData.hasDictAll, ih]
      simp [PyData.hasDict, PyData.hasDictAll, nd]
  have s3 : PyData.depthAll (os.map fun o => PyData.tuple [.int o.1, .tuple (o.2.map .int)]) ≤ 2 := by
    clear h l5 o1 s1 s2
    induction os with
    | nil => exact Nat.zero_le _
    | cons o os ih =>
      rw [List.map_cons, PyData.depthAll]
      simp only [PyData.depth, PyData.depthAll, (lay_ints o.2).2]
      omega
  have s4 : (PyData.list (os.map fun o => .tuple [.int o.1, .tuple (o.2.map .int)])).shown.length ≤ sizeLine := by
    refine sl_le ?_
    simp only [PyData.shown]
    rw [shownAll_map]
    refine Nat.le_trans (listText_le _) ?_
    have := piled_le (m := 800) (os.map fun o => (PyData.tuple [.int o.1, .tuple (o.2.map .int)]).shown) fun t ht => by
      obtain ⟨o, ho, rfl⟩ := List.mem_map.mp ht
      obtain ⟨h1, h2, h3, h4⟩ := o1 o ho
      have a1 := int_shown h1 h2
      have a2 := ints_shown h4
      simp only [PyData.shown, PyData.shownAll] at a1 a2 ⊢
      refine Nat.le_trans (PySem.fmt_text _) ?_
      simp only [piled_cons, piled_nil]
      omega
    rw [List.length_map] at this
    have : os.length * (800 + 2) ≤ 5 * 802 := Nat.mul_le_mul l5 (Nat.le_refl _)
    omega
  exact ⟨_, by
    dsimp only [Option.bind]
    rw [if_pos ⟨by simpa [PyData.showable] using s1, by simpa [PyData.hasDict] using s2, by simp only [PyData.depth]; omega, s4⟩]⟩
/-! ### asked right -/
theorem right_ok {a : Nat} {L : List Int} {S : List (List CellT)} (o : POk a L S) (nm : Bool) {os : List (Int × List Int)} (h : OOk L.length os) {ch : List Int} (c : ChOk os.length ch) :
    m__law_asked_right [.fz (plv a L S), .fz (.lst none (os.map offP)), .fz (lkP ch), .fz (.bl nm)] = .ret (.bl true, [.un, .un, .un, .un]) := by
  unfold m__law_asked_right
  rw [fnV_eq rfl]
  have p1 := plant_ok false o
  obtain ⟨z, rz⟩ := repr_ok o.l24 h
  have d := due_ok o h c
  have aT := asked_good o false true h c
  have aF := asked_good o true false h c
  have i1 := isp_ok o
  have tn : pTuple (.lst none (os.map offP)) = some (sq true (os.map offP)) := rfl
  have sf : sq false (os.map offP) = .lst none (os.map offP) := rfl
  rw [sf] at aT
  have ne : pNe (.str z) (.str z) = some (.bl false) := sne_same z
  by_cases hk : 8 < (kindsL os ch L.length).length
  · rw [if_pos hk] at d aT aF
    have s := same_run (sm_refl 12 (.lst none [.str "many", .int (kindsL os ch L.length).length]) (by
      refine smz_lst (by simp) fun x hx => ?_
      simp only [List.mem_cons, List.not_mem_nil, or_false] at hx
      rcases hx with rfl | rfl
      · exact (by decide +kernel : smz 11 (.str "many") = true)
      · rfl))
    have x0 : pIx (.lst none [.str "many", .int (kindsL os ch L.length).length]) (.int 0) = some (.str "many") := atI0 _ _
    have e1 := seq_same "many"
    cases nm <;> simp [b__law_asked_right, plv_0, plv_1, plv_2, eNew, p1, opv_eq, truth, tn, rz, fzs, d, aT, aF, i1, ne, x0, e1, s, outs, SV.own]
  · rw [if_neg hk] at d aT aF
    have i2 := isp_ok (newL_ok o os ch (by omega))
    have x0 : pIx (.lst none [.str "told", lkP (newL os ch L.length)]) (.int 0) = some (.str "told") := atI0 _ _
    have x1 : pIx (.lst none [.str "told", lkP (newL os ch L.length)]) (.int 1) = some (lkP (newL os ch L.length)) := atI1 _ _ _
    have y0 : pIx (.lst none [.str "told", opv a (newL os ch L.length) S]) (.int 0) = some (.str "told") := atI0 _ _
    have y1 : pIx (.lst none [.str "told", opv a (newL os ch L.length) S]) (.int 1) = some (opv a (newL os ch L.length) S) := atI1 _ _ _
    have e1 := seq_ne (x := "told") (y := "many") (by decide +kernel)
    have e2 := sne_same "told"
    cases nm <;> simp [b__law_asked_right, plv_0, plv_1, plv_2, eNew, p1, opv_eq, truth, tn, rz, fzs, d, aT, aF, i1, i2, ne, x0, x1, y0, y1, e1, e2, outs, SV.own]
end k02

set_option Elab.async false
set_option linter.all false
set_option maxRecDepth 100000
set_option maxHeartbeats 1000000
namespace k02
open PySem PySem.Spec PyProof.Rows L2 VL
/-! ### a plant, drawn -/
theorem ints_nat (ys : List Nat) : (ys.map fun (y : Nat) => PV.int y) = (ys.map fun (y : Nat) => (y : Int)).map .int := by rw [List.map_map]; rfl
theorem cell_mk {n : Nat} {ys : List Nat} (h1 : 1 ≤ ys.length) (h3 : ys.length ≤ 3) (h : ∀ y ∈ ys, y < n) : CellOk n (some (srtU ltI (ys.map fun (y : Nat) => (y : Int)))) := by
  refine ⟨fun ns e => ?_⟩
  cases e
  have hl := srtU_len (lt := ltI) (ys.map fun (y : Nat) => (y : Int))
  rw [List.length_map] at hl
  refine ⟨fun e => ?_, by omega, ?_, fun i hi => ?_⟩
  · cases ys with
    | nil => simp at h1
    | cons y ys =>
      have := (srtU_mem linI (y : Int) ((y :: ys).map fun (y : Nat) => (y : Int))).mpr (by simp)
      rw [e] at this
      cases this
  · refine (srtU_pair linI _).imp fun {a b} q => ?_
    simpa [ltI] using q
  · obtain ⟨y, hy, rfl⟩ := List.mem_map.mp ((srtU_mem linI i _).mp hi)
    have := h y hy
    omega
theorem set_bx {n b : Nat} {r : List SV} {x : SV} : (SV.bx b :: r).set 0 x = x :: r := rfl
theorem inner_run {b n a : Nat} (hn1 : 1 ≤ n) (hn : n ≤ 24) (hb : b < 1000000000) {rows cells : List PV} (hc : cells.length ≤ 6) {a4 a6 a7 : SV} {K : Out → Prop} {E : XE' → Prop}
    (hK : ∀ b' c x7, b' ≤ b + 5 → CellOk n c → K (.nx [.bx b', .fz (.int n), .fz (.int a), .ow rows, a4, .ow (cells ++ [cellP c]), a6, x7, .un])) :
    ((sSeq (sSet 7 (eLst (lOp1 lSS (eLst (lLc [8] (iRng (eOp2 pAdd (eC (.int 1)) (eCallB mTake 0 (aCons (eC (.int 3)) (aNil))))) (gN 8) (gYes) (eCallB mTake 0 (aCons (eVar 1) (aNil)))))))) (sAppO 5 (eIf (gBl (eOp2 pEq (eCallB mTake 0 (aCons (eC (.int 4)) (aNil))) (eC (.int 0)))) (eC .non) (eOp1 pTuple (eVar 7)))))
      [.bx b, .fz (.int n), .fz (.int a), .ow rows, a4, .ow cells, a6, a7, .un]).run K E := by
  refine r_set (r_lst (r_lOp1 (r_lst (r_lcI (r_rng (r_op2 (r_C (r_takeC (m := 3) rfl (by omega) (by omega) (by omega) fun d hd => ⟨_, rfl, 1 + d, by simp, by omega, ?_⟩))))))))
  refine r_draws (m := n) rfl rfl rfl (by simp) (by decide) (fun n' x => by simp) (by omega) (by omega) (by simp; omega) (by omega) fun ys hl hy => ?_
  rw [List.length_map, List.length_range] at hl
  rw [ints_nat]
  refine ⟨_, lSS_ints (by rw [List.length_map]; omega), ?_⟩
  have co := cell_mk (n := n) (ys := ys) (by omega) (by omega) hy
  refine r_app rfl (r_if (r_bl (r_op2 (r_takeC (m := 4) (n := b + 1 + (1 + d)) (by simp) (by omega) (by omega) (by omega) fun e he => ?_))))
  refine r_C ⟨_, pEq_int _ _, _, rfl, ?_⟩
  dsimp only
  split
  · exact r_C ⟨cells, rfl, by omega, hK _ none _ (by omega) ⟨fun _ h => nomatch h⟩⟩
  · exact r_op1 (r_var rfl ⟨_, rfl, cells, rfl, by omega, hK _ (some _) _ (by omega) co⟩)
def inB : GS := (sSeq (sSet 7 (eLst (lOp1 lSS (eLst (lLc [8] (iRng (eOp2 pAdd (eC (.int 1)) (eCallB mTake 0 (aCons (eC (.int 3)) (aNil))))) (gN 8) (gYes) (eCallB mTake 0 (aCons (eVar 1) (aNil)))))))) (sAppO 5 (eIf (gBl (eOp2 pEq (eCallB mTake 0 (aCons (eC (.int 4)) (aNil))) (eC (.int 0)))) (eC .non) (eOp1 pTuple (eVar 7)))))
def rowP (r : List CellT) : PV := .lst none (r.map cellP)
theorem row_run {b n a : Nat} (hn1 : 1 ≤ n) (hn : n ≤ 24) (ha : a ≤ 6) (hb : b < 900000000) {rows : List PV} (hr : rows.length ≤ 24) {a4 a5 a6 a7 : SV} {K : Out → Prop} {E : XE' → Prop}
    (hK : ∀ b' r x6 x7, b' ≤ b + 30 → r.length = a → (∀ c ∈ r, CellOk n c) → K (.nx [.bx b', .fz (.int n), .fz (.int a), .ow (rows ++ [rowP r]), a4, .fz (rowP r), x6, x7, .un])) :
    ((sSeq (sOwn 5 (lDisp (aNil))) (sSeq (sFor (gN 6) (iRng (eVar 2)) inB) (sPub 5 (sAppO 3 (eVar 5)))))
      [.bx b, .fz (.int n), .fz (.int a), .ow rows, a4, a5, a6, a7, .un]).run K E := by
  refine r_own (r_disp (r_nil ⟨by simp, ?_⟩))
  refine r_seq (r_for (fun k ρ => ∃ b' r x6 x7, b' ≤ b + 5 * k ∧ r.length = k ∧ k ≤ a ∧ (∀ c ∈ r, CellOk n c) ∧ ρ = [.bx b', .fz (.int n), .fz (.int a), .ow rows, a4, .ow (r.map cellP), x6, x7, .un]) (r_rng (r_var rfl ⟨a, rfl, by omega, ⟨b, [], a6, a7, by omega, rfl, by omega, fun c h => (nomatch h), rfl⟩, fun k v hk ρ1 => ?_, fun ρ' => ?_⟩)))
  · rintro ⟨b', r, x6, x7, h1, h2, h3, h4, rfl⟩
    obtain ⟨hk, rfl⟩ := range_at hk
    refine ⟨_, rfl, fun {K E} q => ?_⟩
    refine inner_run hn1 hn (by omega) (by rw [List.length_map]; omega) fun b2 c x7 e1 e2 => q _ ⟨b2, r ++ [c], .fz (.int k), x7, by omega, by simp; omega, by omega, fun d hd => ?_, ?_⟩
    · rcases List.mem_append.mp hd with h | h
      · exact h4 d h
      · rw [List.mem_singleton.mp h]; exact e2
    · rw [List.map_append]; rfl
  · rintro ⟨b', r, x6, x7, h1, h2, h3, h4, rfl⟩
    rw [List.length_map, List.length_range] at h1 h2
    exact ⟨_, rfl, r_pub rfl (r_app rfl (r_var rfl ⟨rows, rfl, by omega, hK b' r x6 x7 (by omega) h2 h4⟩))⟩
theorem plant_run {b n a : Nat} (hn1 : 1 ≤ n) (hn : n ≤ 24) (ha1 : 1 ≤ a) (ha : a ≤ 6) (hb : b < 800000000) {K : PV × List SV → Prop} {E : Ex × List SV → Prop}
    (hK : ∀ b' L S, b' ≤ b + 800 → POk a L S → L.length = n → K (plv a L S, [.bx b', .un, .un])) : (m__law_plant [.bx b, .fz (.int n), .fz (.int a)]).run K E := by
  refine r_fn rfl ?_
  show (b__law_plant [.bx b, .fz (.int n), .fz (.int a), .un, .un, .un, .un, .un, .un]).run _ _
  unfold b__law_plant
  refine r_own (r_disp (r_nil ⟨by simp, ?_⟩))
  refine r_seq (r_for (fun k ρ => ∃ b' S x4 x5 x6 x7, b' ≤ b + 30 * k ∧ S.length = k ∧ k ≤ n ∧ (∀ r ∈ S, r.length = a ∧ ∀ c ∈ r, CellOk n c) ∧ SV.own x4 = false ∧ ρ = [.bx b', .fz (.int n), .fz (.int a), .ow (S.map rowP), x4, x5, x6, x7, .un]) (r_rng (r_var rfl ⟨n, rfl, by omega, ⟨b, [], _, _, _, _, by omega, rfl, by omega, fun c h => (nomatch h), rfl, rfl⟩, fun k v hk ρ1 => ?_, fun ρ' => ?_⟩)))
  · rintro ⟨b', S, x4, x5, x6, x7, h1, h2, h3, h4, h5, rfl⟩
    obtain ⟨hk, rfl⟩ := range_at hk
    refine ⟨_, rfl, fun {K E} q => ?_⟩
    refine row_run hn1 hn ha (by omega) (by rw [List.length_map]; omega) fun b2 r x6 x7 e1 e2 e3 => q _ ⟨b2, S ++ [r], .fz (.int k), .fz (rowP r), x6, x7, by omega, by simp; omega, by omega, fun d hd => ?_, rfl, ?_⟩
    · rcases List.mem_append.mp hd with h | h
      · exact h4 d h
      · rw [List.mem_singleton.mp h]; exact ⟨e2, e3⟩
    · rw [List.map_append]; rfl
  · rintro ⟨b', S, x4, x5, x6, x7, h1, h2, h3, h4, h5, rfl⟩
    rw [List.length_map, List.length_range] at h1 h2
    refine ⟨_, rfl, r_pub rfl (r_sRet (r_lst (r_disp (r_cons (r_var rfl (r_cons (r_op1 (r_lst (r_lcI (r_rng (r_var rfl ⟨n, rfl, by omega, ?_⟩)))))))))))⟩
    refine r_draws (m := 8) rfl rfl h5 (by simp) (by decide) (fun n' x => by simp) (by omega) (by omega) (by simp; omega) (by omega) fun ys hl hy => ?_
    rw [List.length_map, List.length_range] at hl
    rw [ints_nat]
    refine ⟨_, rfl, r_cons (r_var rfl (r_nil ⟨by simp, ?_⟩))⟩
    have ll : (ys.map fun (y : Nat) => (y : Int)).length = n := by rw [List.length_map, hl]
    refine hK _ (ys.map fun (y : Nat) => (y : Int)) S ?_ ⟨by omega, by omega, by omega, by omega, fun i hi => ?_, by omega, fun r hr => (h4 r hr).1, fun r hr c hc => by rw [ll]; exact (h4 r hr).2 c hc⟩ ll
    · rw [List.length_map, List.length_range]; omega
    · obtain ⟨y, hy', rfl⟩ := List.mem_map.mp hi
      have := hy y hy'
      omega
end k02

set_option Elab.async false
set_option linter.all false
set_option maxRecDepth 100000
set_option maxHeartbeats 1000000
namespace k02
open PySem PySem.Spec PyProof.Rows L2 VL
/-! ### offers, drawn -/
theorem codes_run {b n m : Nat} (hn1 : 1 ≤ n) (hn : n ≤ 24) (hm1 : 1 ≤ m) (hm : m ≤ 16) (hb : b < 800000000) {K : PV × List SV → Prop} {E : Ex × List SV → Prop}
    (hK : ∀ (b' : Nat) (ns : List Int), b' ≤ b + 30 → ns.length = n → (∀ i ∈ ns, 0 ≤ i ∧ i < 16) → K (.lst none (ns.map .int), [.bx b', .un, .un])) : (m__law_codes [.bx b, .fz (.int n), .fz (.int m)]).run K E := by
  refine r_fn rfl ?_
  show (b__law_codes [.bx b, .fz (.int n), .fz (.int m), .un, .un, .un, .un]).run _ _
  unfold b__law_codes
  refine r_parEL (r_takeC (m := 16) rfl (by omega) (by omega) (by omega) fun s hs => r_disp (r_nil ⟨by simp, ?_⟩))
  refine r_seq (r_for (fun k ρ => ∃ (b' : Nat) (ns : List Int) (x5 : SV), b' ≤ b + 1 + k ∧ ns.length = k ∧ k ≤ n ∧ (∀ i ∈ ns, 0 ≤ i ∧ i < 16) ∧ ρ = [.bx b', .fz (.int n), .fz (.int m), .fz (.int s), .ow (ns.map .int), x5, .un]) (r_rng (r_var rfl ⟨n, rfl, by omega, ⟨b + 1, [], _, by omega, rfl, by omega, fun i h => (nomatch h), rfl⟩, fun k v hk ρ1 => ?_, fun ρ' => ?_⟩)))
  · rintro ⟨b', ns, x5, h1, h2, h3, h4, rfl⟩
    obtain ⟨hk, rfl⟩ := range_at hk
    refine ⟨_, rfl, fun {K E} q => ?_⟩
    have fin : ∀ (y : Nat) (b2 : Nat), y < 24 → b2 ≤ b' + 1 → ∃ v, pMul (.int y) (.int 5) = some v ∧ ∃ w, pAdd v (.int s) = some w ∧ ∃ u, pInt w = some u ∧ ∃ z, pMod u (.int 16) = some z ∧ ∃ xs, [SV.bx b2, .fz (.int n), .fz (.int m), .fz (.int s), .ow (ns.map .int), .fz (.int k), .un][4]? = some (.ow xs) ∧ xs.length < 1000000 ∧ K (.nx ([SV.bx b2, .fz (.int n), .fz (.int m), .fz (.int s), .ow (ns.map .int), .fz (.int k), .un].set 4 (.ow (xs ++ [z])))) := fun y b2 hy hb2 => by
      refine ⟨_, mul_ok (by omega) (by decide), _, rfl, _, rfl, _, mod_ok (by decide), ns.map .int, rfl, by rw [List.length_map]; omega, q _ ⟨b2, ns ++ [((y : Int) * 5 + s) % 16], .fz (.int k), by omega, by simp; omega, by omega, fun i hi => ?_, by rw [List.map_append]; rfl⟩⟩
      rcases List.mem_append.mp hi with h | h
      · exact h4 i h
      · rw [List.mem_singleton.mp h]
        omega
    refine r_app rfl (r_op2 (r_op1 (r_op2 (r_op2 (r_if (r_bl (r_op2 (r_var rfl (r_var rfl ⟨_, rfl, _, rfl, ?_⟩)))))))))
    by_cases c : (k : Int) < m
    · rw [if_pos (by simpa [pLtT] using c)]
      obtain ⟨v, e1, w, e2, u, e3, z, e4, xs, e5, e6, e7⟩ := fin k b' (by omega) (by omega)
      exact r_var rfl (r_C ⟨v, e1, r_var rfl ⟨w, e2, ⟨u, e3, r_C ⟨z, e4, xs, e5, e6, e7⟩⟩⟩⟩)
    · rw [if_neg (by simpa [pLtT] using c)]
      refine r_take (m := m) rfl rfl (by omega) (by omega) (by omega) fun d hd => ?_
      obtain ⟨v, e1, w, e2, u, e3, z, e4, xs, e5, e6, e7⟩ := fin d (b' + 1) (by omega) (by omega)
      exact r_C ⟨v, e1, r_var rfl ⟨w, e2, ⟨u, e3, r_C ⟨z, e4, xs, e5, e6, e7⟩⟩⟩⟩
  · rintro ⟨b', ns, x5, h1, h2, h3, h4, rfl⟩
    rw [List.length_map, List.length_range] at h1 h2
    refine ⟨_, rfl, r_set (r_take (m := n) rfl rfl (by omega) (by omega) (by omega) fun d hd => ?_)⟩
    refine r_pub rfl (r_sRet (r_ev (x := (.lst none ((ns.drop d ++ ns.take d).map .int), [.bx (b' + 1), .fz (.int n), .fz (.int m), .fz (.int s), .fz (.lst none (ns.map .int)), x5, .fz (.int d)])) ?_ (hK _ _ (by omega) (by simp; omega) fun i hi => ?_)))
    · have e1 : cutP (ns.map PV.int) (some (d : Int)) none = (ns.map PV.int).drop d := cut_from _ (by rw [List.length_map]; omega)
      have e2 : cutP (ns.map PV.int) none (some (d : Int)) = (ns.map PV.int).take d := cut_to _ (by rw [List.length_map]; omega)
      have e3 : pAdd (.lst none ((ns.map PV.int).drop d)) (.lst none ((ns.map PV.int).take d)) = some (.lst none ((ns.map PV.int).drop d ++ (ns.map PV.int).take d)) := pAdd_lst (by simp; omega)
      simp [pSl_lst, e1, e2, e3]
    · rcases List.mem_append.mp hi with h | h
      · exact h4 i (List.mem_of_mem_drop h)
      · exact h4 i (List.mem_of_mem_take h)
theorem looks_draw {b n : Nat} {x2 x3 x4 x5 x6 x7 x8 x9 : SV} (hn : n ≤ 24) (hb : b < 900000000) {K : List PV × Env' → Prop} {E : XE' → Prop}
    (hK : ∀ ys b', ys.length = n → (∀ y ∈ ys, ∃ d : Nat, y = .int d ∧ d < 4) → b' ≤ b + 2 * n → K (ys, [.bx b', .fz (.int n), x2, x3, x4, x5, x6, x7, x8, x9, .un, .un])) :
    (lLc [10] (iRng (eVar 1)) (gN 10) (gYes) (eCallB mTake 0 (aCons (eOp2 pAdd (eC (.int 1)) (eCallB mTake 0 (aCons (eC (.int 4)) (aNil)))) (aNil))) [.bx b, .fz (.int n), x2, x3, x4, x5, x6, x7, x8, x9, .un, .un]).run K E := by
  refine r_lcI (r_rng (r_var rfl ⟨n, rfl, by omega, ?_⟩))
  refine r_lcP (c := 2) (j := 0) (fun y => ∃ d : Nat, y = .int d ∧ d < 4) rfl rfl rfl (by decide) (by simp; omega) (fun x hx n' hn' {K E} q => ?_) fun ys n' hl hP hn' => hK ys n' (by simpa using hl) hP (by simpa using hn')
  rw [List.length_map, List.length_range] at hn'
  refine r_takeG rfl (r_op2 (r_C (r_takeC (m := 4) rfl (by omega) (by omega) (by omega) fun d hd => ⟨_, rfl, 1 + d, _, by simp, rfl, by omega, by omega, by omega, fun e he => q _ _ (by omega) ⟨e, rfl, by omega⟩⟩)))
def offerB : GS := (sSeq (sSet 9 (eLst (lLc [10] (iRng (eVar 1)) (gN 10) (gYes) (eCallB mTake 0 (aCons (eOp2 pAdd (eC (.int 1)) (eCallB mTake 0 (aCons (eC (.int 4)) (aNil)))) (aNil)))))) (sSeq (sSet 9 (eIf (gBl (eOp2 pEq (eVar 8) (eVar 5))) (eLst (lLc [11] (iSeq (eVar 3)) (gN 11) (gYes) (eOp2 pFdiv (eVar 11) (eC (.int 4))))) (eIf (gBl (eOp2 pEq (eVar 8) (eVar 7))) (eLst (lLc [11] (iSeq (eVar 3)) (gN 11) (gYes) (eOp2 pMod (eOp1 pInt (eVar 11)) (eC (.int 4))))) (eVar 9)))) (sAppO 6 (eTup (aCons (eOp2 pIx (eLst (lDisp (aCons (eC (.int 0)) (aCons (eC (.int 20)) (aCons (eCallB mTake 0 (aCons (eC (.int 21)) (aNil))) (aNil)))))) (eCallB mTake 0 (aCons (eC (.int 3)) (aNil)))) (aCons (eOp1 pTuple (eVar 9)) (aNil)))))))
theorem offer_run {b n : Nat} {codes : List Int} (hc : codes.length = n) (hcb : ∀ i ∈ codes, 0 ≤ i ∧ i < 16) {p f w k : Int} {rows : List PV} (hr : rows.length ≤ 10) {x2 x9 : SV} (hn : n ≤ 24) (hb : b < 800000000) {K : Out → Prop} {E : XE' → Prop}
    (hK : ∀ b' pr ds x9, b' ≤ b + 50 → 0 ≤ pr ∧ pr ≤ 20 ∧ List.length ds = n ∧ (∀ i ∈ ds, 0 ≤ i ∧ i ≤ 3) → K (.nx [.bx b', .fz (.int n), x2, .fz (.lst none (codes.map .int)), .fz (.int p), .fz (.int f), .ow (rows ++ [offP (pr, ds)]), .fz (.int w), .fz (.int k), x9, .un, .un])) :
    (offerB [.bx b, .fz (.int n), x2, .fz (.lst none (codes.map .int)), .fz (.int p), .fz (.int f), .ow rows, .fz (.int w), .fz (.int k), x9, .un, .un]).run K E := by
  unfold offerB
  refine r_set (r_lst (looks_draw (b := b) hn (by omega) fun ys b0 hl hP hb0 => ?_))
  have fin : ∀ (b1 : Nat) (zs : List PV), b1 ≤ b + 2 * n → zs.length = n → (∀ y ∈ zs, ∃ d : Nat, y = .int d ∧ d < 4) → ((sAppO 6 (eTup (aCons (eOp2 pIx (eLst (lDisp (aCons (eC (.int 0)) (aCons (eC (.int 20)) (aCons (eCallB mTake 0 (aCons (eC (.int 21)) (aNil))) (aNil)))))) (eCallB mTake 0 (aCons (eC (.int 3)) (aNil)))) (aCons (eOp1 pTuple (eVar 9)) (aNil)))))
      [.bx b1, .fz (.int n), x2, .fz (.lst none (codes.map .int)), .fz (.int p), .fz (.int f), .ow rows, .fz (.int w), .fz (.int k), .fz (.lst none zs), .un, .un]).run K E := fun b1 zs hb1 hz hP => by
    obtain ⟨ds, rfl, hd⟩ := nats_of hP
    rw [List.length_map] at hz
    refine r_app rfl (r_tup (r_cons (r_pick (m := 3) (by omega) (by omega) (r_cons (r_C (r_cons (r_C (r_cons (r_takeC (m := 21) rfl (by omega) (by omega) (by omega) fun d hd' => r_nil ⟨rfl, b1 + 1, rfl, by omega, fun x hx => ?_⟩)))))))))
    refine r_cons (r_op1 (r_var rfl ⟨_, rfl, r_nil ⟨by simp, rows, rfl, by omega, ?_⟩⟩))
    obtain ⟨pr, rfl, h0, h1⟩ : ∃ pr : Int, x = .int pr ∧ 0 ≤ pr ∧ pr ≤ 20 := by
      simp only [List.mem_cons, List.not_mem_nil, or_false] at hx
      rcases hx with rfl | rfl | rfl
      · exact ⟨0, rfl, by omega, by omega⟩
      · exact ⟨20, rfl, by omega, by omega⟩
      · exact ⟨d, rfl, by omega, by omega⟩
    exact hK _ pr ds _ (by omega) ⟨h0, h1, hz, fun i hi => by have := hd i hi; omega⟩
  refine r_set (r_if (r_bl (r_op2 (r_var rfl (r_var rfl ⟨_, pEq_int _ _, _, rfl, ?_⟩)))))
  dsimp only
  split
  · refine r_lst (r_lcI (r_seqI (r_var rfl ⟨_, rfl, ?_⟩)))
    refine r_lcP (c := 0) (j := 0) (fun y => ∃ d : Nat, y = .int d ∧ d < 4) rfl rfl rfl (by decide) (by simp; omega) (fun x hx n' hn' {K E} q => ?_) fun ys n' hl hP hn' => ?_
    · obtain ⟨i, hi, rfl⟩ := List.mem_map.mp hx
      have := hcb i hi
      exact r_op2 (r_var rfl (r_C ⟨_, fdiv_ok (by decide) (by decide), q _ _ (by omega) ⟨(i / 4).toNat, by congr 1; omega, by omega⟩⟩))
    · exact fin _ _ (by omega) (hl.trans ((List.length_map _).trans hc)) hP
  · refine r_if (r_bl (r_op2 (r_var rfl (r_var rfl ⟨_, pEq_int _ _, _, rfl, ?_⟩))))
    dsimp only
    split
    · refine r_lst (r_lcI (r_seqI (r_var rfl ⟨_, rfl, ?_⟩)))
      refine r_lcP (c := 0) (j := 0) (fun y => ∃ d : Nat, y = .int d ∧ d < 4) rfl rfl rfl (by decide) (by simp; omega) (fun x hx n' hn' {K E} q => ?_) fun ys n' hl hP hn' => ?_
      · obtain ⟨i, hi, rfl⟩ := List.mem_map.mp hx
        have := hcb i hi
        exact r_op2 (r_op1 (r_var rfl ⟨_, rfl, r_C ⟨_, mod_ok (by decide), q _ _ (by omega) ⟨(i % 4).toNat, by congr 1; omega, by omega⟩⟩⟩))
      · exact fin _ _ (by omega) (hl.trans ((List.length_map _).trans hc)) hP
    · exact r_var rfl (fin _ _ (by omega) hl hP)
theorem size_of {x : PV} (hx : x ∈ [PV.int 1, .int 2, .int 3, .int 4, .int 5, .int 2, .int 5]) : ∃ (sz : Int) (p : Nat), x = .int sz ∧ sz = ((p + 1 : Nat) : Int) ∧ p ≤ 4 := by
  simp only [List.mem_cons, List.not_mem_nil, or_false] at hx
  rcases hx with e | e | e | e | e | e | e
  · exact ⟨1, 0, e, by decide, by decide⟩
  · exact ⟨2, 1, e, by decide, by decide⟩
  · exact ⟨3, 2, e, by decide, by decide⟩
  · exact ⟨4, 3, e, by decide, by decide⟩
  · exact ⟨5, 4, e, by decide, by decide⟩
  · exact ⟨2, 1, e, by decide, by decide⟩
  · exact ⟨5, 4, e, by decide, by decide⟩
theorem offers_run {b n : Nat} (hn1 : 1 ≤ n) (hn : n ≤ 24) (hb : b < 700000000) {K : PV × List SV → Prop} {E : Ex × List SV → Prop}
    (hK : ∀ b' os pl, b' ≤ b + 1000 → OOk n os → ChOk os.length pl → pl ≠ [] → K (.lst none [.lst none (os.map offP), lkP pl], [.bx b', .un])) : (m__law_offers [.bx b, .fz (.int n)]).run K E := by
  refine r_fn rfl ?_
  show (b__law_offers [.bx b, .fz (.int n), .un, .un, .un, .un, .un, .un, .un, .un, .un, .un]).run _ _
  unfold b__law_offers
  refine r_set (r_pick (m := 6) (by omega) (by omega) (r_cons (r_op2 (r_C (r_takeC (m := 16) rfl (by omega) (by omega) (by omega) fun d hd => ⟨_, rfl, r_cons (r_C (r_cons (r_C (r_cons (r_C (r_cons (r_C (r_cons (r_C (r_nil ⟨rfl, b + 1, rfl, by omega, fun x hx => ?_⟩))))))))))⟩)))))
  obtain ⟨m, rfl, hm1, hm⟩ : ∃ m : Nat, x = .int m ∧ 1 ≤ m ∧ m ≤ 16 := by
    simp only [List.mem_cons, List.not_mem_nil, or_false] at hx
    rcases hx with rfl | rfl | rfl | rfl | rfl | rfl
    · exact ⟨1 + d, by simp, by omega, by omega⟩
    · exact ⟨8, rfl, by omega, by omega⟩
    · exact ⟨9, rfl, by omega, by omega⟩
    · exact ⟨8, rfl, by omega, by omega⟩
    · exact ⟨9, rfl, by omega, by omega⟩
    · exact ⟨16, rfl, by omega, by omega⟩
  clear hx
  refine r_par (r_callB rfl (r_cons (r_var rfl (r_cons (r_var rfl (r_nil ⟨b + 1 + 1, rfl, codes_run hn1 hn hm1 hm (by omega) fun b1 codes hb1 hcl hcb => ?_⟩))))))
  refine r_pick (m := 7) (by omega) (by omega) (r_cons (r_C (r_cons (r_C (r_cons (r_C (r_cons (r_C (r_cons (r_C (r_cons (r_C (r_cons (r_C (r_nil ⟨rfl, b1, rfl, by omega, fun x hx => ?_⟩)))))))))))))))
  refine r_env [.bx (b1 + 1), .fz (.int n), .fz (.int m), .fz (.lst none (codes.map .int)), .fz x, .un, .un, .un, .un, .un, .un, .un] rfl ?_
  obtain ⟨sz, p, rfl, hsz, hp⟩ := size_of hx
  clear hx
  have s1 : pSub (.int sz) (.int 1) = some (.int p) := by rw [pSub_int, hsz]; congr 2; omega
  obtain ⟨M, hM⟩ : ∃ M : Nat, M = max 1 p := ⟨_, rfl⟩
  have m1 := max_ok 1 p
  rw [show ((1 : Nat) : Int) = 1 from rfl, ← hM] at m1
  have g1 : ∀ ρ : Env', ρ[4]? = some (.fz (.int sz)) → (eOp2 pMax2 (eC (.int 1)) (eOp2 pSub (eVar 4) (eC (.int 1)))) ρ = .ret (.int M, ρ) := fun ρ h => by
    simp only [c_eOp2, c_eVar', c_eC, h, Wp.ret_bind, s1, m1, lift]
  refine r_parEL (r_take (m := M) (n := b1 + 1) rfl (g1 _ rfl) (by omega) (by omega) (by omega) fun f hf => r_disp (r_nil ⟨by simp, ?_⟩))
  have s2 : f ≤ p := by omega
  have s3 : pSub (.int p) (.int f) = some (.int ((p - f : Nat) : Int)) := by rw [pSub_int]; congr 2; omega
  obtain ⟨N, hN⟩ : ∃ N : Nat, N = max 1 (p - f) := ⟨_, rfl⟩
  have m2 := max_ok 1 (p - f)
  rw [show ((1 : Nat) : Int) = 1 from rfl, ← hN] at m2
  have g2 : ∀ ρ : Env', ρ[4]? = some (.fz (.int sz)) → ρ[5]? = some (.fz (.int f)) → (eOp2 pMax2 (eC (.int 1)) (eOp2 pSub (eOp2 pSub (eVar 4) (eC (.int 1))) (eVar 5))) ρ = .ret (.int N, ρ) := fun ρ h h5 => by
    simp only [c_eOp2, c_eVar', c_eC, h, h5, Wp.ret_bind, s1, s3, m2, lift]
  refine r_set (r_op2 (r_op2 (r_var rfl (r_C ⟨_, s1, r_op2 (r_op2 (r_var rfl (r_C ⟨_, rfl, r_take (m := N) (n := b1 + 1 + 1) rfl (g2 _ rfl rfl) (by omega) (by omega) (by omega) fun d hd => ?_⟩)))⟩))))
  obtain ⟨w, hw⟩ : ∃ w : Nat, w = min p (f + 1 + d) := ⟨_, rfl⟩
  refine ⟨.int ((f + 1 + d : Nat) : Int), ?_, .int (w : Int), by rw [hw]; exact min_ok _ _, ?_⟩
  · rw [pAdd_int]
    congr 2
  refine r_seq (r_for (fun k ρ => ∃ (b' : Nat) (os : List (Int × List Int)) (x8 x9 : SV), b' ≤ b1 + 3 + 50 * k ∧ os.length = k ∧ k ≤ p + 1 ∧ (∀ o ∈ os, 0 ≤ o.1 ∧ o.1 ≤ 20 ∧ o.2.length = n ∧ ∀ i ∈ o.2, 0 ≤ i ∧ i ≤ 3) ∧ ρ = [.bx b', .fz (.int n), .fz (.int m), .fz (.lst none (codes.map .int)), .fz (.int sz), .fz (.int f), .ow (os.map offP), .fz (.int (w : Int)), x8, x9, .un, .un])
    (r_rng (r_var rfl ⟨p + 1, by rw [hsz], by omega, ⟨_, [], _, _, by omega, rfl, by omega, fun i h => (nomatch h), rfl⟩, fun k v hk ρ1 => ?_, fun ρ' => ?_⟩)))
  · rintro ⟨b', os, x8, x9, h1, h2, h3, h4, rfl⟩
    obtain ⟨hk, rfl⟩ := range_at hk
    refine ⟨_, rfl, fun {K E} q => ?_⟩
    refine offer_run hcl hcb (by rw [List.length_map]; omega) hn (by omega) fun b2 pr ds x9 e1 e2 => q _ ⟨b2, os ++ [(pr, ds)], .fz (.int k), x9, by omega, by simp; omega, by omega, fun o ho => ?_, by rw [List.map_append]; rfl⟩
    rcases List.mem_append.mp ho with h | h
    · exact h4 o h
    · rw [List.mem_singleton.mp h]; exact e2
  · rintro ⟨b', os, x8, x9, h1, h2, h3, h4, rfl⟩
    rw [List.length_map, List.length_range] at h1 h2
    refine ⟨_, rfl, r_pub rfl (r_sRet (r_lst (r_disp (r_cons (r_var rfl (r_cons (r_if (r_bl (r_op2 (r_var rfl (r_var rfl ⟨_, rfl, _, rfl, ?_⟩)))))))))))⟩
    have O : OOk n os := ⟨by omega, by omega, h4⟩
    by_cases c : (f : Int) < (w : Int)
    · rw [if_pos (by simpa using c)]
      refine r_tup (r_cons (r_var rfl (r_cons (r_var rfl (r_nil ⟨by simp, r_nil ⟨by simp, hK _ os [(f : Int), (w : Int)] (by omega) O ⟨fun i hi => ?_, by simpa using c, by simp⟩ (by simp)⟩⟩)))))
      simp only [List.mem_cons, List.not_mem_nil, or_false] at hi
      rcases hi with rfl | rfl <;> omega
    · rw [if_neg (by simpa using c)]
      refine r_tup (r_cons (r_var rfl (r_nil ⟨by simp, r_nil ⟨by simp, hK _ os [(f : Int)] (by omega) O ⟨fun i hi => ?_, by simp, by simp⟩ (by simp)⟩⟩)))
      simp only [List.mem_cons, List.not_mem_nil, or_false] at hi
      rcases hi with rfl
      omega
end k02

set_option Elab.async false
set_option linter.all false
set_option maxRecDepth 100000
set_option maxHeartbeats 1000000
namespace k02
open PySem PySem.Spec PyProof.Rows L2 VL
/-! ### the chosen, and what is refused -/
theorem sub_range {m : Nat} {ys : List PV} (h : ys.Sublist ((List.range m).map fun (k : Nat) => PV.int k)) (h5 : m ≤ 5) : ∃ ch : List Int, ys = ch.map .int ∧ ChOk m ch := by
  obtain ⟨ks, hs, rfl⟩ := List.sublist_map_iff.mp h
  refine ⟨ks.map fun (k : Nat) => (k : Int), ints_nat ks, fun i hi => ?_, ?_, ?_⟩
  · obtain ⟨k, hk, rfl⟩ := List.mem_map.mp hi
    have := List.mem_range.mp (hs.subset hk)
    omega
  · refine List.pairwise_map.mpr ((List.pairwise_lt_range.sublist hs).imp fun {a b} q => ?_)
    omega
  · have := hs.length_le
    rw [List.length_range] at this
    rw [List.length_map]
    omega
theorem chosen_run {b : Nat} {os : List (Int × List Int)} (h5 : os.length ≤ 5) {pl : List Int} (hp : ChOk os.length pl) (hb : b < 700000000) {K : PV × List SV → Prop} {E : Ex × List SV → Prop}
    (hK : ∀ b' ch, b' ≤ b + 10 → ChOk os.length ch → K (lkP ch, [.bx b', .un, .un])) : (m__law_chosen [.bx b, .fz (.lst none (os.map offP)), .fz (lkP pl)]).run K E := by
  refine r_fn rfl ?_
  show (b__law_chosen [.bx b, .fz (.lst none (os.map offP)), .fz (lkP pl), .un, .un]).run _ _
  unfold b__law_chosen
  have hl : pLen (.lst none (os.map offP)) = some (.int os.length) := by simp [pLen]
  refine r_set (r_op1 (r_lst (r_lcI (r_rng (r_op1 (r_var rfl ⟨_, hl, os.length, rfl, by omega, ?_⟩))))))
  refine r_some (c := 1) (j := 0) (n := b) rfl rfl rfl (by simp) (by decide) (by simp; omega) (fun x hx n' hn' {KT E} q => ?_) fun ys n' hs hn' => ?_
  · rw [List.length_map, List.length_range] at hn'
    exact r_bl (r_op2 (r_takeC (m := 2) rfl (by omega) (by omega) (by omega) fun d hd => r_C ⟨_, pEq_int _ _, _, rfl, q _ _ (by omega)⟩))
  rw [List.length_map, List.length_range] at hn'
  obtain ⟨ch, rfl, hc⟩ := sub_range hs h5
  refine ⟨_, rfl, ?_⟩
  refine r_env [.bx n', .fz (.lst none (os.map offP)), .fz (lkP pl), .fz (lkP ch), .un] rfl ?_
  have e1 : pSl (lkP pl) none (some 1) = some (lkP (pl.take 1)) := by
    have : cutP (pl.map PV.int) none (some ((1 : Nat) : Int)) = (pl.take 1).map PV.int := by
      by_cases h1 : 1 ≤ pl.length
      · rw [cut_to _ (by rw [List.length_map]; exact h1), List.map_take]
      · have : pl = [] := List.length_eq_zero_iff.mp (by omega)
        rw [this]
        rfl
    rw [lkP, pSl_tup, ← Int.natCast_one, this]
    rfl
  refine r_sRet (r_pick (m := 6) (by omega) (by omega) (r_cons (r_var rfl (r_cons (r_var rfl (r_cons (r_tup (r_nil ⟨by simp, r_cons (r_tupRg (r_rng (r_op1 (r_var rfl ⟨_, hl, os.length, rfl, by omega, by simp; omega, r_cons (r_ev (x := (lkP (pl.take 1), [.bx n', .fz (.lst none (os.map offP)), .fz (lkP pl), .fz (lkP ch), .un])) (by simp [e1]) (r_cons (r_var rfl (r_nil ⟨rfl, n', rfl, by omega, fun x hx => ?_⟩))))⟩))))⟩))))))))
  have fin : ∀ cs, ChOk os.length cs → K (lkP cs, [.bx (n' + 1), .un, .un]) := fun cs h => hK _ cs (by omega) h
  have full : ∃ cs : List Int, ((List.range os.length).map fun (k : Nat) => PV.int k) = cs.map .int ∧ ChOk os.length cs := sub_range (List.Sublist.refl _) h5
  obtain ⟨fs, ef, hf⟩ := full
  have hx : x ∈ [lkP pl, lkP ch, .tup [], .tup ((List.range os.length).map fun (k : Nat) => PV.int k), lkP (pl.take 1), lkP pl] := hx
  show K (x, [.bx (n' + 1), .un, .un])
  rw [ef] at hx
  simp only [List.mem_cons, List.not_mem_nil, or_false] at hx
  rcases hx with rfl | rfl | rfl | rfl | rfl | rfl
  · exact fin _ hp
  · exact fin _ hc
  · exact fin [] ⟨fun i h => (nomatch h), by simp, by simp⟩
  · exact fin _ hf
  · exact fin _ ⟨fun i h => hp.lt i (List.mem_of_mem_take h), hp.asc.sublist (List.take_sublist _ _), by have := hp.len; rw [List.length_take]; omega⟩
  · exact fin _ hp
end k02

set_option Elab.async false
set_option linter.all false
set_option maxRecDepth 100000
set_option maxHeartbeats 1000000
namespace k02
open PySem PySem.Spec PyProof.Rows L2 VL
/-! ### what is refused -/
theorem kq_ok {v : PV} (h : kd v = true) (hl : (itemsOf v).length ≤ 1000) (ha : ∀ x ∈ itemsOf v, kd x = true) : kq v = true := by
  unfold kq
  rw [h, List.all_eq_true.mpr ha]
  simp
  omega
theorem kd_ints (ns : List Int) : ∀ x ∈ ns.map PV.int, kd x = true := fun x hx => by
  obtain ⟨i, _, rfl⟩ := List.mem_map.mp hx
  rfl
theorem kof_two {p l : PV} (h1 : kd p = true) (h2 : kq l = true) : kof (.tup [p, l]) = true := by
  unfold kof
  dsimp only
  rw [h1, h2]
  rfl
theorem kof_lk (ns : List Int) : kof (lkP ns) = true := by
  unfold kof lkP
  split
  · rename_i p l e
    have e' : ns.map PV.int = [p, l] := by injection e
    have h1 := kd_ints ns p (by rw [e']; simp)
    have h2 := kd_ints ns l (by rw [e']; simp)
    rw [h1]
    match ns, e' with
    | [x, y], e' =>
      have : l = .int y := by simp at e'; exact e'.2.symm
      rw [this]
      rfl
  · rfl
theorem offB_price {n : Nat} {p l : PV} (h : btw p 0 20 = false) : offB n (.tup [p, l]) = false := by
  unfold offB
  dsimp only
  rw [h]
  rfl
theorem offB_looks {n : Nat} {p l : PV} (h : (tupn n l && arB (itemsOf l) 0 3) = false) : offB n (.tup [p, l]) = false := by
  unfold offB
  dsimp only
  rw [h, Bool.and_false]
theorem offB_lk (n : Nat) (ns : List Int) : offB n (lkP ns) = false := by
  match ns with
  | [] => rfl
  | [_] => rfl
  | [a, b] => exact offB_looks rfl
  | _ :: _ :: _ :: _ => rfl
def BadOf (n : Nat) (v : PV) : Prop := kof v = true ∧ offB n v = false
theorem cut_from1 {xs : List PV} {d : Nat} (h : d < xs.length) : cutP xs (some ((d : Int) + 1)) none = xs.drop (d + 1) := by
  have q := cut_from xs (k := d + 1) (by omega)
  rwa [show ((d + 1 : Nat) : Int) = (d : Int) + 1 by omega] at q
def restA : GA := (aCons (eTup (aCons (eVar 2) (aCons (eLst (lOp1 lList (eVar 3))) (aNil)))) (aCons (eTup (aCons (eVar 2) (aCons (eSl pSl (eVar 3) (oNone) (oSome (eOp1 pNeg (eC (.int 1))))) (aNil)))) (aCons (eTup (aCons (eVar 2) (aCons (eOp2 pAdd (eVar 3) (eTup (aCons (eC (.int 0)) (aNil)))) (aNil)))) (aCons (eTup (aCons (eVar 2) (aCons (eVar 6) (aNil)))) (aCons (eTup (aCons (eVar 2) (aCons (eVar 6) (aNil)))) (aCons (eLst (lDisp (aCons (eVar 2) (aCons (eVar 3) (aNil))))) (aCons (eTup (aCons (eVar 2) (aNil))) (aCons (eTup (aCons (eVar 2) (aCons (eVar 3) (aCons (eC (.int 0)) (aNil))))) (aCons (eVar 3) (aCons (eC .non) (aCons (eTup (aCons (eVar 2) (aCons (eC .non) (aNil)))) (aNil))))))))))))
theorem rest_ev {n b : Nat} {x1 x4 x5 : SV} {p : Int} {L : List Int} {w : PV} (hL : L.length = n) (hn : n ≤ 24) : restA [.bx b, x1, .fz (.int p), .fz (lkP L), x4, x5, .fz w] =
    .ret ([.tup [.int p, .lst none (L.map .int)], .tup [.int p, .tup ((L.map .int).take (L.length - 1))], .tup [.int p, .tup (L.map .int ++ [.int 0])], .tup [.int p, w], .tup [.int p, w], .lst none [.int p, lkP L], .tup [.int p], .tup [.int p, lkP L, .int 0], lkP L, .non, .tup [.int p, .non]], [.bx b, x1, .fz (.int p), .fz (lkP L), x4, x5, .fz w]) := by
  have e1 : lList (lkP L) = some (L.map .int) := rfl
  have e2 : pSl (lkP L) none (some (-1)) = some (.tup ((L.map .int).take (L.length - 1))) := by
    show pSl (.tup _) _ _ = _
    rw [pSl_tup, cut_to1, List.length_map]
  have e3 : pAdd (lkP L) (.tup [.int 0]) = some (.tup (L.map .int ++ [.int 0])) := pAdd_tup (by simp; omega)
  have e4 : pNeg (.int 1) = some (.int (-1)) := rfl
  simp [restA, e1, e2, e3, e4]
theorem bad_offer_run {b n : Nat} (hn1 : 1 ≤ n) (hn : n ≤ 24) {o : Int × List Int} (ho : 0 ≤ o.1 ∧ o.1 ≤ 20 ∧ o.2.length = n ∧ ∀ i ∈ o.2, 0 ≤ i ∧ i ≤ 3) (hb : b < 700000000) {K : PV × List SV → Prop} {E : Ex × List SV → Prop}
    (hK : ∀ b' v, b' ≤ b + 10 → BadOf n v → K (v, [.bx b', .un])) : (m__law_bad_offer [.bx b, .fz (offP o)]).run K E := by
  obtain ⟨p, L⟩ := o
  obtain ⟨h1, h2, h3, h4⟩ := ho
  dsimp only at h1 h2 h3 h4
  refine r_fn rfl ?_
  show (b__law_bad_offer [.bx b, .fz (offP (p, L)), .un, .un, .un, .un, .un]).run _ _
  unfold b__law_bad_offer
  refine r_tgt (r_var rfl ⟨[.bx b, .fz (offP (p, L)), .fz (.int p), .fz (lkP L), .un, .un, .un], rfl, ?_⟩)
  have hlen : pLen (lkP L) = some (.int n) := by simp [lkP, pLen, h3]
  refine r_par (r_takeG rfl (r_op1 (r_var rfl ⟨_, hlen, n, b, rfl, rfl, by omega, by omega, by omega, fun d hd => ?_⟩)))
  refine r_pick (m := 6) (by omega) (by omega) (r_cons (r_C (r_cons (r_op1 (r_C ⟨_, rfl, r_cons (r_C (r_cons (r_C (r_cons (r_C (r_cons (r_tup (r_cons (r_C (r_nil ⟨by simp, r_nil ⟨rfl, b + 1, rfl, by omega, fun x hx => ?_⟩⟩))))))))))⟩)))))
  have hx : x ∈ [PV.int 4, .int (-1), .bl true, .non, .str "1", .tup [.int 1]] := hx
  have hw : kd x = true ∧ btw x 0 3 = false := by
    clear hK
    simp only [List.mem_cons, List.not_mem_nil, or_false] at hx
    rcases hx with rfl | rfl | rfl | rfl | rfl | rfl <;> exact ⟨rfl, rfl⟩
  clear hx
  refine r_env [.bx (b + 1 + 1), .fz (offP (p, L)), .fz (.int p), .fz (lkP L), .fz (.int d), .fz x, .un] rfl ?_
  have hd' : d < (L.map PV.int).length := by rw [List.length_map]; omega
  have c1 : pSl (lkP L) none (some (d : Int)) = some (.tup ((L.map .int).take d)) := by
    show pSl (.tup _) _ _ = _
    rw [pSl_tup, cut_to _ (by omega)]
  have c2 : pSl (lkP L) (some ((d : Int) + 1)) none = some (.tup ((L.map .int).drop (d + 1))) := by
    show pSl (.tup _) _ _ = _
    rw [pSl_tup, cut_from1 hd']
  have c3 : pAdd (.tup ((L.map PV.int).take d)) (.tup [x]) = some (.tup ((L.map PV.int).take d ++ [x])) := pAdd_tup (by simp; omega)
  have c4 : pAdd (.tup ((L.map PV.int).take d ++ [x])) (.tup ((L.map PV.int).drop (d + 1))) = some (.tup (((L.map PV.int).take d ++ [x]) ++ (L.map PV.int).drop (d + 1))) := pAdd_tup (by simp; omega)
  obtain ⟨ws, hws⟩ : ∃ ws, ws = ((L.map PV.int).take d ++ [x]) ++ (L.map PV.int).drop (d + 1) := ⟨_, rfl⟩
  rw [← hws] at c4
  have w1 : ws.length ≤ 1000 := by rw [hws]; simp; omega
  have w2 : ∀ y ∈ ws, kd y = true := fun y hy => by
    rw [hws] at hy
    rcases List.mem_append.mp hy with h | h
    · rcases List.mem_append.mp h with h | h
      · exact kd_ints L y (List.mem_of_mem_take h)
      · rw [List.mem_singleton.mp h]; exact hw.1
    · exact kd_ints L y (List.mem_of_mem_drop h)
  have w3 : arB ws 0 3 = false := by
    refine Bool.eq_false_iff.mpr fun h => ?_
    have := List.all_eq_true.mp h x (by rw [hws]; simp)
    rw [hw.2] at this
    cases this
  refine r_set (r_ev (x := (.tup ws, [.bx (b + 1 + 1), .fz (offP (p, L)), .fz (.int p), .fz (lkP L), .fz (.int d), .fz x, .un])) (by simp [pAdd_int, c1, c2, c3, c4]) ?_)
  refine r_env [.bx (b + 1 + 1), .fz (offP (p, L)), .fz (.int p), .fz (lkP L), .fz (.int d), .fz x, .fz (.tup ws)] rfl ?_
  refine r_sRet (r_pick (m := 12) (by omega) (by omega) (r_cons (r_tup (r_cons (r_pick (m := 5) (by omega) (by omega) (r_cons (r_C (r_cons (r_op1 (r_C ⟨_, rfl, r_cons (r_C (r_cons (r_C (r_cons (r_C (r_nil ⟨rfl, b + 1 + 1, rfl, by omega, fun y hy => r_cons (r_var rfl (r_nil ⟨by simp, r_ev (rest_ev (b := b + 1 + 1 + 1) h3 hn) ⟨rfl, b + 1 + 1 + 1, rfl, by omega, fun z hz => ?_⟩⟩))⟩))))))⟩))))))))))
  have hy : y ∈ [PV.int 21, .int (-1), .bl true, .non, .str "3"] := hy
  have hz : z ∈ PV.tup [y, lkP L] :: [.tup [.int p, .lst none (L.map .int)], .tup [.int p, .tup ((L.map .int).take (L.length - 1))], .tup [.int p, .tup (L.map .int ++ [.int 0])], .tup [.int p, .tup ws], .tup [.int p, .tup ws], .lst none [.int p, lkP L], .tup [.int p], .tup [.int p, lkP L, .int 0], lkP L, .non, .tup [.int p, .non]] := hz
  have hy' : kd y = true ∧ btw y 0 20 = false := by
    clear hK hz
    simp only [List.mem_cons, List.not_mem_nil, or_false] at hy
    rcases hy with rfl | rfl | rfl | rfl | rfl <;> exact ⟨rfl, rfl⟩
  refine hK (b + 1 + 1 + 1 + 1) z (by omega) ?_
  clear hK hy
  simp only [List.mem_cons, List.not_mem_nil, or_false] at hz
  rcases hz with rfl | rfl | rfl | rfl | rfl | rfl | rfl | rfl | rfl | rfl | rfl | rfl
  · exact ⟨kof_two hy'.1 (kq_ints (by omega)), offB_price hy'.2⟩
  · exact ⟨kof_two rfl (kq_ok rfl (by simp [itemsOf]; omega) (kd_ints L)), offB_looks rfl⟩
  · refine ⟨kof_two rfl (kq_ok rfl (by simp [itemsOf]; omega) fun x hx => kd_ints L x (List.mem_of_mem_take hx)), offB_looks ?_⟩
    rw [show tupn n (.tup ((L.map PV.int).take (L.length - 1))) = false by simp [tupn]; omega, Bool.false_and]
  · refine ⟨kof_two rfl (kq_ok rfl (by simp [itemsOf]; omega) fun x hx => ?_), offB_looks ?_⟩
    · rcases List.mem_append.mp hx with h | h
      · exact kd_ints L x h
      · rw [List.mem_singleton.mp h]; rfl
    · rw [show tupn n (.tup (L.map PV.int ++ [.int 0])) = false by simp [tupn]; omega, Bool.false_and]
  · exact ⟨kof_two rfl (kq_ok rfl w1 w2), offB_looks (by rw [show itemsOf (.tup ws) = ws from rfl, w3, Bool.and_false])⟩
  · exact ⟨kof_two rfl (kq_ok rfl w1 w2), offB_looks (by rw [show itemsOf (.tup ws) = ws from rfl, w3, Bool.and_false])⟩
  · exact ⟨rfl, rfl⟩
  · exact ⟨rfl, rfl⟩
  · exact ⟨rfl, rfl⟩
  · exact ⟨kof_lk L, offB_lk n L⟩
  · exact ⟨rfl, rfl⟩
  · exact ⟨rfl, offB_looks rfl⟩
end k02

set_option Elab.async false
set_option linter.all false
set_option maxRecDepth 100000
set_option maxHeartbeats 1000000
namespace k02
open PySem PySem.Spec PyProof.Rows L2 VL
/-! ### the refusal -/
def SmB (v : PV) : Prop := (∃ q xs, v = .lst (some q) xs ∧ xs.length ≤ 1000000) ∨ ((∀ g xs, v ≠ .lst g xs) ∧ (tyN v).isSome = true ∧ smz 12 v = true)
theorem hv_run {v : PV} (h : SmB v) {g k : GE} {ρ : Env'} (e1 : g ρ = .ret (v, ρ)) (e2 : k ρ = .ret (v, ρ)) : ∃ q, hV1 r__law_same g k ρ = .ret (true, q, ρ) := by
  rcases h with ⟨q, xs, rfl, hl⟩ | ⟨h1, h2, h3⟩
  · exact ⟨_, hV1_lst e1 e2 hl⟩
  · exact ⟨_, hV1_val e1 e2 h1 h2 (same_run (sm_refl 12 v h3))⟩
structure BadO (n : Nat) (v : PV) : Prop where
  k : KOf v
  b : offsB n v = false
  s : SmB v
structure BadC (m : Nat) (v : PV) : Prop where
  k : kq v = true
  b : stB m v = false
  s : SmB v
theorem smz_tupk {xs : List PV} (h : xs.length ≤ 1000) (z : ∀ x ∈ xs, smz 11 x = true) : SmB (.tup xs) := .inr ⟨fun _ _ e => (nomatch e), rfl, smz_tup (by omega) z⟩
/-- a list of offers with a bad one -/
theorem badO_bent {n : Nat} {q : Addr} {os : List (Int × List Int)} (hn : n ≤ 24) (h : OOk n os) {d : Nat} (hd : d < os.length) {v : PV} (hv : BadOf n v) : BadO n (.lst (some q) (((os.map offP).take d ++ [v]) ++ (os.map offP).drop (d + 1))) := by
  have l5 := h.l5
  refine ⟨⟨rfl, by simp [itemsOf]; omega, fun x hx => ?_⟩, ?_, .inl ⟨_, _, rfl, by simp; omega⟩⟩
  · have ko : ∀ y ∈ os.map offP, kof y = true := fun y hy => by
      obtain ⟨o, ho, rfl⟩ := List.mem_map.mp hy
      exact offP_kof o (by have := (h.ok o ho).2.2.1; omega)
    rcases List.mem_append.mp hx with z | z
    · rcases List.mem_append.mp z with z | z
      · exact ko x (List.mem_of_mem_take z)
      · rw [List.mem_singleton.mp z]; exact hv.1
    · exact ko x (List.mem_of_mem_drop z)
  · unfold offsB
    rw [Bool.and_eq_false_iff]
    right
    refine Bool.eq_false_iff.mpr fun z => ?_
    have := List.all_eq_true.mp z v (by simp [itemsOf])
    rw [hv.2] at this
    cases this
theorem badO_kd {n : Nat} {v : PV} (h1 : kd v = true) (h2 : itemsOf v = []) (h3 : lenB v 1 5 = false) (h4 : SmB v) : BadO n v := ⟨⟨h1, by rw [h2]; exact Nat.zero_le _, by rw [h2]; exact fun x hx => nomatch hx⟩, by unfold offsB; rw [h3]; rfl, h4⟩
theorem badO_long {n : Nat} {q : Addr} {os xs : List (Int × List Int)} (hn : n ≤ 24) (h : OOk n os) (hx : ∀ o ∈ xs, o ∈ os) (hl : os.length + xs.length = 6) : BadO n (.lst (some q) (os.map offP ++ xs.map offP)) := by
  have l5 := h.l5
  refine ⟨⟨rfl, by simp [itemsOf]; omega, fun x hx' => ?_⟩, ?_, .inl ⟨_, _, rfl, by simp; omega⟩⟩
  · rw [show itemsOf (.lst (some q) (os.map offP ++ xs.map offP)) = os.map offP ++ xs.map offP from rfl, ← List.map_append] at hx'
    obtain ⟨o, ho, rfl⟩ := List.mem_map.mp hx'
    have ho' : o ∈ os := (List.mem_append.mp ho).elim id (hx o)
    exact offP_kof o (by have := (h.ok o ho').2.2.1; omega)
  · unfold offsB
    have : lenB (.lst (some q) (os.map offP ++ xs.map offP)) 1 5 = false := by
      unfold lenB lenOf
      simp
      omega
    rw [this]
    rfl
theorem badO_one {n : Nat} (hn : n ≤ 24) {o : Int × List Int} (ho : o.2.length = n) : BadO n (offP o) := by
  refine ⟨⟨rfl, by simp [offP, itemsOf], fun x hx => ?_⟩, ?_, smz_tupk (by simp) fun x hx => ?_⟩
  · have hx : x ∈ [PV.int o.1, lkP o.2] := hx
    simp only [List.mem_cons, List.not_mem_nil, or_false] at hx
    rcases hx with rfl | rfl
    · rfl
    · exact kof_lk _
  · unfold offsB
    have : (itemsOf (offP o)).all (offB n) = false := rfl
    rw [this, Bool.and_false]
  · simp only [List.mem_cons, List.not_mem_nil, or_false] at hx
    rcases hx with rfl | rfl
    · rfl
    · exact lkP_smz (by omega) 9
/-! wrong choices -/
theorem badC_ints {m : Nat} {xs : List PV} (hl : xs.length ≤ 1000) (hk : ∀ x ∈ xs, kd x = true ∧ smz 11 x = true) (hb : stB m (.tup xs) = false) : BadC m (.tup xs) :=
  ⟨kq_ok rfl hl fun x hx => (hk x hx).1, hb, smz_tupk hl fun x hx => (hk x hx).2⟩
theorem ks_ints (ns : List Int) : ∀ x ∈ ns.map PV.int, kd x = true ∧ smz 11 x = true := fun x hx => by
  obtain ⟨i, _, rfl⟩ := List.mem_map.mp hx
  exact ⟨rfl, rfl⟩
theorem stB_out {m : Nat} {xs : List PV} {x : PV} (hx : x ∈ xs) (h : btw x 0 (m - 1) = false) : stB m (.tup xs) = false := by
  unfold stB
  dsimp only
  rw [Bool.and_eq_false_iff]
  left
  refine Bool.eq_false_iff.mpr fun z => ?_
  have := List.all_eq_true.mp z x hx
  rw [h] at this
  cases this
theorem stB_down {m : Nat} {ns : List Int} (h : ascB ns = false) : stB m (.tup (ns.map .int)) = false := by
  unfold stB
  dsimp only
  rw [intsOf_map]
  dsimp only
  rw [h, Bool.and_false]
theorem smB_kd {v : PV} (h1 : ∀ g xs, v ≠ .lst g xs) (h2 : (tyN v).isSome = true) (h3 : smz 12 v = true) : SmB v := .inr ⟨h1, h2, h3⟩
def badG : GE := (eOp2 pIx (eLst (lDisp (aCons (eVar 7) (aCons (eVar 7) (aCons (eVar 7) (aCons (eLstT (lDisp (aNil))) (aCons (eAddT (eVar 2) (eOp2 pMul (eLst (lDisp (aCons (eOp2 pIx (eVar 2) (eC (.int 0))) (aNil)))) (eOp2 pSub (eC (.int 6)) (eOp1 pLen (eVar 2))))) (aCons (eC .non) (aCons (eC (.int 7)) (aCons (eC (.str "offers")) (aCons (eTup (aNil)) (aCons (eOp2 pIx (eVar 2) (eC (.int 0))) (aNil))))))))))))) (eCallB mTake 0 (aCons (eC (.int 10)) (aNil))))
theorem bad_run {b n : Nat} {os : List (Int × List Int)} (hn : n ≤ 24) (h : OOk n os) {bent : PV} (hbent : BadO n bent) (hb : b < 800000000) {x1 x3 x4 x5 x6 x8 x9 x10 x11 x12 : SV} {K : PV × Env' → Prop} {E : XE' → Prop}
    (hK : ∀ v, BadO n v → K (v, [.bx (b + 1), x1, .fz (.lst none (os.map offP)), x3, x4, x5, x6, .fz bent, x8, x9, x10, x11, x12])) :
    (badG [.bx b, x1, .fz (.lst none (os.map offP)), x3, x4, x5, x6, .fz bent, x8, x9, x10, x11, x12]).run K E := by
  have l1 := h.l1
  have l5 := h.l5
  obtain ⟨o, os', rfl⟩ : ∃ o os', os = o :: os' := by
    cases os with
    | nil => simp at l1
    | cons o os' => exact ⟨o, os', rfl⟩
  have i0 : pIx (.lst none ((o :: os').map offP)) (.int 0) = some (offP o) := atI0 _ _
  have hlen : pLen (.lst none ((o :: os').map offP)) = some (.int (o :: os').length) := by simp [pLen]
  obtain ⟨r, hr⟩ : ∃ r : Nat, (o :: os').length + r = 6 := ⟨6 - (o :: os').length, by omega⟩
  have hsub : pSub (.int 6) (.int (o :: os').length) = some (.int (r : Int)) := by rw [pSub_int]; congr 2; omega
  have hmul : pMul (.lst none [offP o]) (.int (r : Int)) = some (.lst none ((List.replicate r o).map offP)) := by
    have e : (List.replicate (r : Int).toNat [offP o]).flatten = (List.replicate r o).map offP := by
      rw [Int.toNat_natCast, List.map_replicate]
      clear hr hsub hlen
      induction r with
      | zero => rfl
      | succ r ih => rw [List.replicate_succ, List.replicate_succ, List.flatten_cons, ih]; rfl
    have r6 : r ≤ 6 := by omega
    have c : ((r : Int) < 9223372036854775808) ∧ (-9223372036854775808 ≤ (r : Int)) ∧ [offP o].length * (r : Int).toNat ≤ sizeLine := ⟨by omega, by omega, by rw [sizeLine_eq, Int.toNat_natCast]; simp; omega⟩
    simp only [pMul, if_pos c, e]
  unfold badG
  refine r_pick (m := 10) (by omega) (by omega) (r_cons (r_var rfl (r_cons (r_var rfl (r_cons (r_var rfl (r_cons (r_lstT (r_disp (r_nil ⟨by simp, fun q => r_cons (r_addTL (r_var rfl (r_op2 (r_lst (r_disp (r_cons (r_op2 (r_var rfl (r_C ⟨_, i0, r_nil ⟨by simp, r_op2 (r_C (r_op1 (r_var rfl ⟨_, hlen, _, hsub, _, hmul, none, none, _, _, rfl, rfl, by simp; simp at hr; omega, fun q' => r_cons (r_C (r_cons (r_C (r_cons (r_C (r_cons (r_tup (r_nil ⟨by simp, r_cons (r_op2 (r_var rfl (r_C ⟨_, i0, r_nil ⟨rfl, b, rfl, by omega, fun x hx => ?_⟩⟩)))⟩))))))))⟩)))⟩⟩)))))))))⟩))))))))))
  have hx : x ∈ [bent, bent, bent, .lst (some q) [], .lst (some q') ((o :: os').map offP ++ (List.replicate r o).map offP), .non, .int 7, .str "offers", .tup [], offP o] := hx
  refine hK x ?_
  clear hK
  simp only [List.mem_cons, List.not_mem_nil, or_false] at hx
  rcases hx with rfl | rfl | rfl | rfl | rfl | rfl | rfl | rfl | rfl | rfl
  · exact hbent
  · exact hbent
  · exact hbent
  · exact badO_kd rfl rfl rfl (.inl ⟨_, _, rfl, by simp⟩)
  · refine badO_long hn h (fun a ha => ?_) (by rw [List.length_replicate]; exact hr)
    rw [(List.mem_replicate.mp ha).2]
    exact List.mem_cons_self
  · exact badO_kd rfl rfl rfl (smB_kd (fun _ _ e => nomatch e) rfl rfl)
  · exact badO_kd rfl rfl rfl (smB_kd (fun _ _ e => nomatch e) rfl rfl)
  · exact badO_kd rfl rfl rfl (smB_kd (fun _ _ e => nomatch e) rfl (by decide +kernel))
  · exact badO_kd rfl rfl rfl (smB_kd (fun _ _ e => nomatch e) rfl rfl)
  · exact badO_one hn (h.ok _ List.mem_cons_self).2.2.1
def wrongG : GE := (eOp2 pIx (eLst (lDisp (aCons (eLstT (lOp1 lList (eVar 9))) (aCons (eAddT (eVar 9) (eSl pSl (eVar 9) (oSome (eOp1 pNeg (eC (.int 1)))) (oNone))) (aCons (eAddT (eVar 9) (eTup (aCons (eVar 10) (aNil)))) (aCons (eAddT (eTup (aCons (eOp1 pNeg (eC (.int 1))) (aNil))) (eVar 9)) (aCons (eTup (aCons (eC (.int 1)) (aCons (eC (.int 0)) (aNil)))) (aCons (eAddT (eSl pSl (eVar 9) (oNone) (oSome (eOp1 pNeg (eC (.int 1))))) (eTup (aCons (eC (.bl true)) (aNil)))) (aCons (eC .non) (aCons (eOp2 pIx (eVar 9) (eC (.int 0))) (aCons (eTup (aCons (eC .non) (aNil))) (aNil)))))))))))) (eCallB mTake 0 (aCons (eC (.int 9)) (aNil))))
theorem ascB_dup (init : List Int) (a : Int) : ascB ((init ++ [a]) ++ [a]) = false := by
  refine Bool.eq_false_iff.mpr fun z => ?_
  have := List.all_eq_true.mp z init.length (List.mem_range.mpr (by simp))
  simp [List.getD_eq_getElem?_getD] at this
theorem wrong_run {b m : Nat} {ms : List Int} (hm : m ≤ 5) (c : ChOk m ms) (hne : ms ≠ []) (hb : b < 800000000) {x1 x2 x3 x4 x5 x6 x7 x8 x11 x12 : SV} {K : PV × Env' → Prop} {E : XE' → Prop}
    (hK : ∀ v, BadC m v → K (v, [.bx (b + 1), x1, x2, x3, x4, x5, x6, x7, x8, .fz (lkP ms), .fz (.int m), x11, x12])) :
    (wrongG [.bx b, x1, x2, x3, x4, x5, x6, x7, x8, .fz (lkP ms), .fz (.int m), x11, x12]).run K E := by
  have l5 := c.len
  obtain ⟨init, a, rfl⟩ : ∃ init a, ms = init ++ [a] := ⟨ms.dropLast, ms.getLast hne, (List.dropLast_concat_getLast hne).symm⟩
  have li : init.length ≤ 4 := by simp at l5; omega
  have hms : ∀ i ∈ init ++ [a], 0 ≤ i ∧ i < m := c.lt
  have en : pNeg (.int 1) = some (.int (-1)) := rfl
  have s1 : pSl (lkP (init ++ [a])) (some (-1)) none = some (.tup ([a].map .int)) := by
    show pSl (.tup _) _ _ = _
    rw [pSl_tup, cut_last, List.length_map, ← List.map_drop, List.length_append, List.length_singleton, Nat.add_sub_cancel, List.drop_left]
  have s2 : pSl (lkP (init ++ [a])) none (some (-1)) = some (.tup (init.map .int)) := by
    show pSl (.tup _) _ _ = _
    rw [pSl_tup, cut_to1, List.length_map, ← List.map_take, List.length_append, List.length_singleton, Nat.add_sub_cancel, List.take_left]
  obtain ⟨i0, hi0, him⟩ : ∃ i0 : Int, pIx (lkP (init ++ [a])) (.int 0) = some (.int i0) ∧ True := by
    cases init with
    | nil => exact ⟨a, atI0 _ _, trivial⟩
    | cons i r => exact ⟨i, atI0 _ _, trivial⟩
  have e1 : (eSl pSl (eVar 9) (oSome (eOp1 pNeg (eC (.int 1)))) (oNone)) [.bx b, x1, x2, x3, x4, x5, x6, x7, x8, .fz (lkP (init ++ [a])), .fz (.int m), x11, x12] = .ret (.tup ([a].map .int), [.bx b, x1, x2, x3, x4, x5, x6, x7, x8, .fz (lkP (init ++ [a])), .fz (.int m), x11, x12]) := by
    simp [en, s1]
  have e2 : (eSl pSl (eVar 9) (oNone) (oSome (eOp1 pNeg (eC (.int 1))))) [.bx b, x1, x2, x3, x4, x5, x6, x7, x8, .fz (lkP (init ++ [a])), .fz (.int m), x11, x12] = .ret (.tup (init.map .int), [.bx b, x1, x2, x3, x4, x5, x6, x7, x8, .fz (lkP (init ++ [a])), .fz (.int m), x11, x12]) := by
    simp [en, s2]
  have ll : lList (lkP (init ++ [a])) = some ((init ++ [a]).map .int) := rfl
  unfold wrongG
  refine r_pick (m := 9) (by omega) (by omega) (r_cons (r_lstT (r_lOp1 (r_var rfl ⟨_, ll, fun q => r_cons (r_addTP (r_var rfl (r_ev e1 ⟨(init ++ [a]).map .int, [a].map .int, rfl, rfl, by simp; omega, r_cons (r_addTP (r_var rfl (r_tup (r_cons (r_var rfl (r_nil ⟨by simp, (init ++ [a]).map .int, _, rfl, rfl, by simp; omega, r_cons (r_addTP (r_tup (r_cons (r_op1 (r_C ⟨_, en, r_nil ⟨by simp, r_var rfl ⟨_, (init ++ [a]).map .int, rfl, rfl, by simp; omega, r_cons (r_tup (r_cons (r_C (r_cons (r_C (r_nil ⟨by simp, r_cons (r_addTP (r_ev e2 (r_tup (r_cons (r_C (r_nil ⟨by simp, init.map .int, _, rfl, rfl, by simp; omega, r_cons (r_C (r_cons (r_op2 (r_var rfl (r_C ⟨_, hi0, r_cons (r_tup (r_cons (r_C (r_nil ⟨by simp, r_nil ⟨rfl, b, rfl, by omega, fun x hx => ?_⟩⟩))))⟩)))))⟩))))))⟩))))))⟩⟩⟩)))))⟩))))))⟩)))⟩))))
  have hx : x ∈ [.lst (some q) ((init ++ [a]).map .int), .tup ((init ++ [a]).map .int ++ [a].map .int), .tup ((init ++ [a]).map .int ++ [.int m]), .tup ([.int (-1)] ++ (init ++ [a]).map .int), .tup [.int 1, .int 0], .tup (init.map .int ++ [.bl true]), .non, .int i0, .tup [.non]] := hx
  refine hK x ?_
  clear hK e1 e2
  simp only [List.mem_cons, List.not_mem_nil, or_false] at hx
  rcases hx with rfl | rfl | rfl | rfl | rfl | rfl | rfl | rfl | rfl
  · exact ⟨kq_ok rfl (by simp [itemsOf]; omega) (kd_ints _), rfl, .inl ⟨_, _, rfl, by simp; omega⟩⟩
  · rw [← List.map_append]
    exact badC_ints (by simp; omega) (ks_ints _) (stB_down (ascB_dup init a))
  · have : (init ++ [a]).map PV.int ++ [.int m] = ((init ++ [a]) ++ [(m : Int)]).map .int := by rw [List.map_append (f := PV.int) (l₂ := [(m : Int)])]; rfl
    rw [this]
    refine badC_ints (by simp; omega) (ks_ints _) (stB_out (x := .int m) (by simp) ?_)
    simp [btw]
    omega
  · have : [PV.int (-1)] ++ (init ++ [a]).map PV.int = (-1 :: (init ++ [a])).map .int := rfl
    rw [this]
    exact badC_ints (by simp; omega) (ks_ints _) (stB_out (x := .int (-1)) (by simp) rfl)
  · exact badC_ints (by simp) (ks_ints [1, 0]) (stB_down (ns := [1, 0]) (by decide))
  · refine badC_ints (by simp; omega) (fun x hx => ?_) (stB_out (x := .bl true) (by simp) rfl)
    rcases List.mem_append.mp hx with h | h
    · exact ks_ints _ x h
    · rw [List.mem_singleton.mp h]; exact ⟨rfl, rfl⟩
  · exact ⟨rfl, rfl, smB_kd (fun _ _ e => nomatch e) rfl rfl⟩
  · exact ⟨rfl, rfl, smB_kd (fun _ _ e => nomatch e) rfl rfl⟩
  · exact badC_ints (by simp) (fun x hx => by rw [List.mem_singleton.mp hx]; exact ⟨rfl, rfl⟩) (stB_out (x := .non) (by simp) rfl)
end k02

set_option Elab.async false
set_option linter.all false
set_option maxRecDepth 100000
set_option maxHeartbeats 1000000
namespace k02
open PySem PySem.Spec PyProof.Rows L2 VL
theorem ne_tupI (a : List Int) : pNe (lkP a) (.tup []) = some (.bl (!decide (a = []))) := by
  have h := eq_tupI a []
  unfold pEq at h
  unfold pNe
  cases e : eqB (lkP a) (.tup []) with
  | none => rw [lkP] at e; rw [show (PV.tup [] : PV) = .tup (([] : List Int).map .int) from rfl] at e; rw [e] at h; cases h
  | some b =>
    rw [lkP] at e; rw [show (PV.tup [] : PV) = .tup (([] : List Int).map .int) from rfl] at e; rw [e] at h
    have h := Option.some.inj h
    injection h with h
    rw [h]
    rfl
theorem stv_er (b : Bool) (S : List (List CellT)) : (stv b S).er = stv b S := er_sq b fun x hx => by
  obtain ⟨r, _, rfl⟩ := List.mem_map.mp hx
  refine er_sq b fun y hy => ?_
  obtain ⟨c, _, rfl⟩ := List.mem_map.mp hy
  cases c with
  | none => rfl
  | some ns => exact er_ints ns
theorem lk_er (ns : List Int) : (lkP ns).er = lkP ns := er_ints ns
theorem opv_er (a : Nat) (L : List Int) (S : List (List CellT)) : (opv a L S).er = opv a L S := by
  show PV.ins 7 [("acts", PV.er (.int a)), ("looks", (lkP L).er), ("steps", (stv true S).er)] = _
  rw [lk_er, stv_er]
  rfl
theorem off_er (o : Int × List Int) : (offP o).er = offP o := by
  show PV.tup [PV.er (.int o.1), (lkP o.2).er] = _
  rw [lk_er]
  rfl
theorem offs_er (os : List (Int × List Int)) : (PV.lst none (os.map offP)).er = .lst none (os.map offP) := er_sq false fun x hx => by
  obtain ⟨o, _, rfl⟩ := List.mem_map.mp hx
  exact off_er o
theorem refused_run {b : Nat} {a : Nat} {L : List Int} {S : List (List CellT)} (o : POk a L S) {os : List (Int × List Int)} (h : OOk L.length os) {ch : List Int} (c : ChOk os.length ch) (nm : Bool) (hb : b < 600000000) {K : PV × List SV → Prop} {E : Ex × List SV → Prop}
    (hK : ∀ b', b' ≤ b + 30 → K (.bl true, [.bx b', .un, .un, .un, .un])) : (m__law_refused [.bx b, .fz (opv a L S), .fz (.lst none (os.map offP)), .fz (lkP ch), .fz (.bl nm)]).run K E := by
  have l1 := h.l1
  have l5 := h.l5
  have n1 := o.l1
  have n24 := o.l24
  refine r_fnT rfl (by
    show [SV.bx b, .fz (opv a L S).er, .fz (PV.lst none (os.map offP)).er, .fz (lkP ch).er, .fz (.bl nm)] = _
    rw [opv_er, offs_er, lk_er]) ?_
  show (b__law_refused [.bx b, .fz (opv a L S), .fz (.lst none (os.map offP)), .fz (lkP ch), .fz (.bl nm), .un, .un, .un, .un, .un, .un, .un, .un]).run _ _
  unfold b__law_refused
  have hlen : pLen (.lst none (os.map offP)) = some (.int os.length) := by simp [pLen]
  refine r_par (r_takeC (m := 3) (n := b) rfl (by omega) (by omega) (by omega) fun first hf => r_takeG rfl (r_op1 (r_var rfl ⟨_, hlen, os.length, b + 1, rfl, rfl, by omega, by omega, by omega, fun d hd => ?_⟩)))
  refine r_env [.bx (b + 1 + 1), .fz (opv a L S), .fz (.lst none (os.map offP)), .fz (lkP ch), .fz (.bl nm), .fz (.int first), .fz (.int d), .un, .un, .un, .un, .un, .un] rfl ?_
  have hd' : d < (os.map offP).length := by rw [List.length_map]; exact hd
  have c1 : pSl (.lst none (os.map offP)) none (some (d : Int)) = some (.lst none ((os.map offP).take d)) := by rw [pSl_lst, cut_to _ (by omega)]
  have c2 : pSl (.lst none (os.map offP)) (some ((d : Int) + 1)) none = some (.lst none ((os.map offP).drop (d + 1))) := by rw [pSl_lst, cut_from1 hd']
  have ix : pIx (.lst none (os.map offP)) (.int d) = some (offP os[d]) := atI_nat' (by rw [List.getElem?_map, List.getElem?_eq_getElem hd]; rfl)
  refine r_set (r_addTL (r_op2 (r_ev (x := (.lst none ((os.map offP).take d), [.bx (b + 1 + 1), .fz (opv a L S), .fz (.lst none (os.map offP)), .fz (lkP ch), .fz (.bl nm), .fz (.int first), .fz (.int d), .un, .un, .un, .un, .un, .un])) (by simp [c1]) (r_lst (r_disp (r_cons (r_callB rfl (r_cons (r_op2 (r_var rfl (r_var rfl ⟨_, ix, r_nil ⟨b + 1 + 1, rfl, bad_offer_run n1 n24 (h.ok os[d] (List.getElem_mem hd)) (by omega) fun b1 v hb1 hv => r_nil ⟨by simp, ?_⟩⟩⟩)))))))))))
  have c3 : pAdd (.lst none ((os.map offP).take d)) (.lst none [v]) = some (.lst none ((os.map offP).take d ++ [v])) := pAdd_lst (by simp; omega)
  refine ⟨_, c3, r_ev (x := (.lst none ((os.map offP).drop (d + 1)), [.bx b1, .fz (opv a L S), .fz (.lst none (os.map offP)), .fz (lkP ch), .fz (.bl nm), .fz (.int first), .fz (.int d), .un, .un, .un, .un, .un, .un])) (by simp [pAdd_int, c2]) ⟨none, none, _, _, rfl, rfl, by simp; omega, fun q => ?_⟩⟩
  refine r_env [.bx b1, .fz (opv a L S), .fz (.lst none (os.map offP)), .fz (lkP ch), .fz (.bl nm), .fz (.int first), .fz (.int d), .fz (.lst (some q) (((os.map offP).take d ++ [v]) ++ (os.map offP).drop (d + 1))), .un, .un, .un, .un, .un] rfl ?_
  have hbent := badO_bent (q := q) n24 h hd hv
  generalize PV.lst (some q) (((os.map offP).take d ++ [v]) ++ (os.map offP).drop (d + 1)) = bent at hbent ⊢
  refine r_set (bad_run n24 h hbent (by omega) fun bad hbad => ?_)
  refine r_env [.bx (b1 + 1), .fz (opv a L S), .fz (.lst none (os.map offP)), .fz (lkP ch), .fz (.bl nm), .fz (.int first), .fz (.int d), .fz bent, .fz bad, .un, .un, .un, .un] rfl ?_
  obtain ⟨ms, cm, hne, ems⟩ : ∃ ms : List Int, ChOk os.length ms ∧ ms ≠ [] ∧ ms = if ch = [] then [0] else ch := by
    by_cases e : ch = []
    · exact ⟨[0], ⟨fun i hi => by rw [List.mem_singleton.mp hi]; omega, by simp, by simp⟩, by simp, by rw [if_pos e]⟩
    · exact ⟨ch, c, e, by rw [if_neg e]⟩
  refine r_par (r_ev (x := (lkP ms, [.bx (b1 + 1), .fz (opv a L S), .fz (.lst none (os.map offP)), .fz (lkP ch), .fz (.bl nm), .fz (.int first), .fz (.int d), .fz bent, .fz bad, .un, .un, .un, .un])) (by
    by_cases e : ch = []
    · rw [ems, if_pos e]; simp [ne_tupI, e]; rfl
    · rw [ems, if_neg e]; simp [ne_tupI, e]) (r_op1 (r_var rfl ⟨_, hlen, ?_⟩)))
  refine r_env [.bx (b1 + 1), .fz (opv a L S), .fz (.lst none (os.map offP)), .fz (lkP ch), .fz (.bl nm), .fz (.int first), .fz (.int d), .fz bent, .fz bad, .fz (lkP ms), .fz (.int os.length), .un, .un] rfl ?_
  refine r_set (wrong_run l5 cm hne (by omega) fun wrong hw => ?_)
  refine r_env [.bx (b1 + 1 + 1), .fz (opv a L S), .fz (.lst none (os.map offP)), .fz (lkP ch), .fz (.bl nm), .fz (.int first), .fz (.int d), .fz bent, .fz bad, .fz (lkP ms), .fz (.int os.length), .fz wrong, .un] rfl ?_
  have hb2 : b1 + 1 + 1 ≤ b + 30 := by omega
  have x0 : ∀ w : PV, pIx (.lst none [.str "offers", w]) (.int 0) = some (.str "offers") := fun w => atI0 _ _
  have x1 : ∀ w : PV, pIx (.lst none [.str "offers", w]) (.int 1) = some w := fun w => atI1 _ _ _
  have y0 : ∀ w : PV, pIx (.lst none [.str "chosen", w]) (.int 0) = some (.str "chosen") := fun w => atI0 _ _
  have y1 : ∀ w : PV, pIx (.lst none [.str "chosen", w]) (.int 1) = some w := fun w => atI1 _ _ _
  have z0 : ∀ u v w : PV, pIx (.lst none [u, v, w]) (.int 0) = some u := fun u v w => atI0 _ _
  have z1 : ∀ u v w : PV, pIx (.lst none [u, v, w]) (.int 1) = some v := fun u v w => atI1 _ _ _
  have z2 : ∀ u v w : PV, pIx (.lst none [u, v, w]) (.int 2) = some w := fun u v w => atI2 _ _ _ _
  have so := seq_same "offers"
  have sc := seq_same "chosen"
  have d3 : first = 0 ∨ first = 1 ∨ first = 2 := by omega
  rcases d3 with rfl | rfl | rfl
  · have A := asked_offers (a := a) (L := L) S nm bad (lkP ch) hbad.k hbad.b
    refine r_set (r_ev (x := (.lst none [.str "offers", bad], [.bx (b1 + 1 + 1), .fz (opv a L S), .fz (.lst none (os.map offP)), .fz (lkP ch), .fz (.bl nm), .fz (.int (0 : Nat)), .fz (.int d), .fz bent, .fz bad, .fz (lkP ms), .fz (.int os.length), .fz wrong, .un])) (by simp [fzs, pEq_int, A]) ?_)
    refine r_env [.bx (b1 + 1 + 1), .fz (opv a L S), .fz (.lst none (os.map offP)), .fz (lkP ch), .fz (.bl nm), .fz (.int (0 : Nat)), .fz (.int d), .fz bent, .fz bad, .fz (lkP ms), .fz (.int os.length), .fz wrong, .fz (.lst none [.str "offers", bad])] rfl ?_
    obtain ⟨qq, hv⟩ := hv_run hbad.s (g := (eOp2 pIx (eVar 12) (eC (.int 1)))) (k := (eOp2 pIx (eLst (lDisp (aCons (eVar 8) (aCons (eVar 11) (aCons (eVar 8) (aNil)))))) (eVar 5))) (ρ := [.bx (b1 + 1 + 1), .fz (opv a L S), .fz (.lst none (os.map offP)), .fz (lkP ch), .fz (.bl nm), .fz (.int (0 : Nat)), .fz (.int d), .fz bent, .fz bad, .fz (lkP ms), .fz (.int os.length), .fz wrong, .fz (.lst none [.str "offers", bad])]) (by simp [x1]) (by simp [z0])
    exact r_sRetH (by simp [x0, z0, so]) hv (fun _ => hK _ hb2) (hK _ hb2)
  · have A := asked_chosen (a := a) (L := L) S nm n24 false h wrong hw.k hw.b
    have A : m__law_asked [.fz (opv a L S), .fz (.lst none (os.map offP)), .fz wrong, .fz (.bl nm)] = .ret (.lst none [.str "chosen", wrong], [.un, .un, .un, .un]) := A
    refine r_set (r_ev (x := (.lst none [.str "chosen", wrong], [.bx (b1 + 1 + 1), .fz (opv a L S), .fz (.lst none (os.map offP)), .fz (lkP ch), .fz (.bl nm), .fz (.int (1 : Nat)), .fz (.int d), .fz bent, .fz bad, .fz (lkP ms), .fz (.int os.length), .fz wrong, .un])) (by simp [fzs, pEq_int, A]) ?_)
    refine r_env [.bx (b1 + 1 + 1), .fz (opv a L S), .fz (.lst none (os.map offP)), .fz (lkP ch), .fz (.bl nm), .fz (.int (1 : Nat)), .fz (.int d), .fz bent, .fz bad, .fz (lkP ms), .fz (.int os.length), .fz wrong, .fz (.lst none [.str "chosen", wrong])] rfl ?_
    obtain ⟨qq, hv⟩ := hv_run hw.s (g := (eOp2 pIx (eVar 12) (eC (.int 1)))) (k := (eOp2 pIx (eLst (lDisp (aCons (eVar 8) (aCons (eVar 11) (aCons (eVar 8) (aNil)))))) (eVar 5))) (ρ := [.bx (b1 + 1 + 1), .fz (opv a L S), .fz (.lst none (os.map offP)), .fz (lkP ch), .fz (.bl nm), .fz (.int (1 : Nat)), .fz (.int d), .fz bent, .fz bad, .fz (lkP ms), .fz (.int os.length), .fz wrong, .fz (.lst none [.str "chosen", wrong])]) (by simp [y1]) (by simp [z1])
    exact r_sRetH (by simp [y0, z1, sc]) hv (fun _ => hK _ hb2) (hK _ hb2)
  · have A := asked_offers (a := a) (L := L) S nm bad wrong hbad.k hbad.b
    refine r_set (r_ev (x := (.lst none [.str "offers", bad], [.bx (b1 + 1 + 1), .fz (opv a L S), .fz (.lst none (os.map offP)), .fz (lkP ch), .fz (.bl nm), .fz (.int (2 : Nat)), .fz (.int d), .fz bent, .fz bad, .fz (lkP ms), .fz (.int os.length), .fz wrong, .un])) (by simp [fzs, pEq_int, A]) ?_)
    refine r_env [.bx (b1 + 1 + 1), .fz (opv a L S), .fz (.lst none (os.map offP)), .fz (lkP ch), .fz (.bl nm), .fz (.int (2 : Nat)), .fz (.int d), .fz bent, .fz bad, .fz (lkP ms), .fz (.int os.length), .fz wrong, .fz (.lst none [.str "offers", bad])] rfl ?_
    obtain ⟨qq, hv⟩ := hv_run hbad.s (g := (eOp2 pIx (eVar 12) (eC (.int 1)))) (k := (eOp2 pIx (eLst (lDisp (aCons (eVar 8) (aCons (eVar 11) (aCons (eVar 8) (aNil)))))) (eVar 5))) (ρ := [.bx (b1 + 1 + 1), .fz (opv a L S), .fz (.lst none (os.map offP)), .fz (lkP ch), .fz (.bl nm), .fz (.int (2 : Nat)), .fz (.int d), .fz bent, .fz bad, .fz (lkP ms), .fz (.int os.length), .fz wrong, .fz (.lst none [.str "offers", bad])]) (by simp [x1]) (by simp [z2])
    exact r_sRetH (by simp [x0, z2, so]) hv (fun _ => hK _ hb2) (hK _ hb2)
end k02

set_option Elab.async false
set_option linter.all false
set_option maxRecDepth 100000
set_option maxHeartbeats 1000000
namespace k02
open PySem PySem.Spec PyProof.Rows L2 VL
theorem right_run {b : Nat} (nm : Bool) (hb : b < 100000000) {K : PV × List SV → Prop} {E : Ex × List SV → Prop}
    (hK : ∀ b', K (.bl true, [.bx b', .un])) : (m__law_right [.bx b, .fz (.bl nm)]).run K E := by
  refine r_fn rfl ?_
  show (b__law_right [.bx b, .fz (.bl nm), .un, .un, .un, .un, .un]).run _ _
  unfold b__law_right
  refine r_set (r_pick (m := 4) (by omega) (by omega) (r_cons (r_op2 (r_C (r_takeC (m := 24) rfl (by omega) (by omega) (by omega) fun d hd => ⟨_, rfl, r_cons (r_C (r_cons (r_op2 (r_C (r_takeC (m := 16) rfl (by omega) (by omega) (by omega) fun d2 hd2 => ⟨_, rfl, r_cons (r_C (r_nil ⟨rfl, b + 1 + 1, rfl, by omega, fun x hx => ?_⟩))⟩)))))⟩)))))
  replace hx : x ∈ [PV.int (1 + d), .int 24, .int (9 + d2), .int 16] := hx
  obtain ⟨n, rfl, hn1, hn⟩ : ∃ n : Nat, x = .int n ∧ 1 ≤ n ∧ n ≤ 24 := by
    clear hK
    simp only [List.mem_cons, List.not_mem_nil, or_false] at hx
    rcases hx with rfl | rfl | rfl | rfl
    · exact ⟨1 + d, by simp, by omega, by omega⟩
    · exact ⟨24, rfl, by omega, by omega⟩
    · exact ⟨9 + d2, by simp, by omega, by omega⟩
    · exact ⟨16, rfl, by omega, by omega⟩
  clear hx
  refine r_env [.bx (b + 1 + 1 + 1), .fz (.bl nm), .fz (.int n), .un, .un, .un, .un] rfl ?_
  refine r_par (r_callB rfl (r_cons (r_var rfl (r_cons (r_op2 (r_C (r_takeC (m := 6) (n := b + 1 + 1 + 1) rfl (by omega) (by omega) (by omega) fun e he => ⟨.int ((1 + e : Nat) : Int), by rw [pAdd_int]; congr 2, r_nil ⟨b + 1 + 1 + 1 + 1, rfl, plant_run (n := n) (a := 1 + e) hn1 hn (by omega) (by omega) (by omega) fun b1 L S hb1 o hL => ?_⟩⟩)))))))
  refine r_callB rfl (r_cons (r_var rfl (r_nil ⟨b1, rfl, offers_run hn1 hn (by omega) fun b2 os pl hb2 O cp hpl => ?_⟩)))
  refine r_env [.bx b2, .fz (.bl nm), .fz (.int n), .fz (plv (1 + e) L S), .fz (.lst none [.lst none (os.map offP), lkP pl]), .un, .un] rfl ?_
  have l5 := O.l5
  subst hL
  generalize 1 + e = a at o ⊢
  have x0 : pIx (.lst none [.lst none (os.map offP), lkP pl]) (.int 0) = some (.lst none (os.map offP)) := atI0 _ _
  have x1 : pIx (.lst none [.lst none (os.map offP), lkP pl]) (.int 1) = some (lkP pl) := atI1 _ _ _
  refine r_set (r_lst (r_disp (r_cons (r_callB rfl (r_cons (r_op2 (r_var rfl (r_C ⟨_, x0, r_cons (r_op2 (r_var rfl (r_C ⟨_, x1, r_nil ⟨b2, rfl, chosen_run l5 cp (by omega) fun b3 c1 hb3 k1 => ?_⟩⟩)))⟩))))))))
  refine r_cons (r_callB rfl (r_cons (r_op2 (r_var rfl (r_C ⟨_, x0, r_cons (r_op2 (r_var rfl (r_C ⟨_, x1, r_nil ⟨b3, rfl, chosen_run l5 cp (by omega) fun b4 c2 hb4 k2 => r_nil ⟨by simp, ?_⟩⟩⟩)))⟩)))))
  refine r_env [.bx b4, .fz (.bl nm), .fz (.int L.length), .fz (plv a L S), .fz (.lst none [.lst none (os.map offP), lkP pl]), .fz (.lst none [lkP c1, lkP c2]), .un] rfl ?_
  have y0 : pIx (.lst none [lkP c1, lkP c2]) (.int 0) = some (lkP c1) := atI0 _ _
  have y1 : pIx (.lst none [lkP c1, lkP c2]) (.int 1) = some (lkP c2) := atI1 _ _ _
  refine r_seq (r_for (fun k ρ => ∃ (nm' : Bool) (x6 : SV), ρ = [.bx b4, .fz (.bl nm'), .fz (.int L.length), .fz (plv a L S), .fz (.lst none [.lst none (os.map offP), lkP pl]), .fz (.lst none [lkP c1, lkP c2]), x6])
    (r_ev (x := ([lkP c1, lkP c2, lkP c1], [.bx b4, .fz (.bl nm), .fz (.int L.length), .fz (plv a L S), .fz (.lst none [.lst none (os.map offP), lkP pl]), .fz (.lst none [lkP c1, lkP c2]), .un])) (by simp [y0, y1, items]) ⟨⟨nm, _, rfl⟩, fun k v hk ρ1 => ?_, fun ρ' => ?_⟩))
  · rintro ⟨nm', x6, rfl⟩
    have hv : ∃ c, v = lkP c ∧ ChOk os.length c := by
      have hm := List.mem_of_getElem? hk
      have hm : v ∈ [lkP c1, lkP c2, lkP c1] := hm
      clear hk
      simp only [List.mem_cons, List.not_mem_nil, or_false] at hm
      rcases hm with rfl | rfl | rfl
      · exact ⟨_, rfl, k1⟩
      · exact ⟨_, rfl, k2⟩
      · exact ⟨_, rfl, k1⟩
    obtain ⟨c, rfl, hc⟩ := hv
    refine ⟨[.bx b4, .fz (.bl nm'), .fz (.int L.length), .fz (plv a L S), .fz (.lst none [.lst none (os.map offP), lkP pl]), .fz (.lst none [lkP c1, lkP c2]), .fz (lkP c)], rfl, fun {K E} q => ?_⟩
    have R := right_ok o nm' O hc
    refine r_seq (r_sIf (r_ev (x := (false, [.bx b4, .fz (.bl nm'), .fz (.int L.length), .fz (plv a L S), .fz (.lst none [.lst none (os.map offP), lkP pl]), .fz (.lst none [lkP c1, lkP c2]), .fz (lkP c)])) (by simp [x0, fzs, R, truth]) ?_))
    rw [if_neg Bool.false_ne_true]
    exact ⟨_, rfl, r_ev (x := .nx [.bx b4, .fz (.bl (!nm')), .fz (.int L.length), .fz (plv a L S), .fz (.lst none [.lst none (os.map offP), lkP pl]), .fz (.lst none [lkP c1, lkP c2]), .fz (lkP c)]) (by simp) (q _ ⟨!nm', _, rfl⟩)⟩
  · rintro ⟨nm', x6, rfl⟩
    refine ⟨_, rfl, ?_⟩
    have p1 := plant_ok false o
    have ll : lList (.lst none (os.map offP)) = some (os.map offP) := rfl
    refine r_sRet (r_callB rfl ?_)
    refine r_ev (x := ([opv a L S, .lst none (os.map offP), lkP c2, .bl nm'], [.bx b4, .fz (.bl nm'), .fz (.int L.length), .fz (plv a L S), .fz (.lst none [.lst none (os.map offP), lkP pl]), .fz (.lst none [lkP c1, lkP c2]), x6])) (by simp [plv_0, plv_1, plv_2, eNew, p1, opv_eq, x0, y1, ll]) ?_
    exact ⟨b4, rfl, refused_run o O k2 nm' (by omega) fun b5 hb5 => hK b5⟩
def pBody : GS := sSeq (sBox 2 (lCall m__law_box (aCons (eCall m__law_cell (aCons (eVar 0) (aCons (eVar 1) (aNil)))) (aNil)))) (sIf (gNot (gVal (eCallB m__law_right 2 (aCons (eOp2 pEq (eCallB mTake 2 (aCons (eC (.int 2)) (aNil))) (eC (.int 0))) (aNil))))) (sRet (eC (.bl false))) (sNil))
def pRng : GI := iRng (eOp2 pMax2 (eC (.int 1)) (eOp2 pMin2 (eC (.int 3)) (eOp1 pLen (eVar 0))))
theorem law_eq : m_law = fnV 3 noPin (sSeq (sFor (gN 1) pRng pBody) (sRet (eC (.bl true)))) := rfl
theorem body_run {ns : List Int} {k : Nat} (hk : k < 1000) (a2 : SV) {K : Out → Prop} {E : XE' → Prop} (hK : ∀ a1 a2, K (.nx [.fz (.scr ns), a1, a2])) : (pBody [.fz (.scr ns), .fz (.int k), a2]).run K E := by
  have bs := box_step (ρ := [.fz (.scr ns), .fz (.int k), a2]) (ns := ns) (k := k) rfl rfl hk
  unfold pBody
  rw [c_sSeq, bs]
  simp only [Wp.ret_bind, List.set_cons_succ, List.set_cons_zero]
  have t1 : eCallB mTake 2 (aCons (eC (.int 2)) aNil) [.fz (.scr ns), .fz (.int k), .bx 0] = _ := take_at rfl (by omega) (by omega) (by omega)
  have o : ownAt [SV.fz (.scr ns), .fz (.int k), .bx 0] 2 = true := rfl
  rw [c_sIf, c_gNot, c_gVal, c_eCallB, if_pos o, c_aCons, c_eOp2, t1]
  simp only [all_bind, Wp.ret_bind, all_run, List.set_cons_succ, List.set_cons_zero, c_eC, pEq_int, lift, c_aNil]
  intro d hd
  refine run_of (run_of (run_of (boxCall_run (n := 0 + 1) rfl (right_run _ (by omega) fun b' => ?_))))
  simp [truth]
  exact hK _ _
theorem law_true (ns : List Int) (hl : ns.length ≤ 63) (K : PV × List SV → Prop) (E : Ex × List SV → Prop) (h : K (.bl true, [.un])) : (m_law [.fz (.scr ns)]).run K E := by
  rw [law_eq, fnV_eq rfl]
  refine run_of ?_
  rw [run_map, c_sSeq]
  refine run_of ?_
  show ((sFor (gN 1) pRng pBody) [SV.fz (.scr ns), .un, .un]).run _ _
  rw [c_sFor]
  have m1 : pMin2 (.int 3) (.int ns.length) = some (.int ((min 3 ns.length : Nat) : Int)) := by
    unfold pMin2
    dsimp only
    congr 2
    split <;> omega
  have m2 := max_ok 1 (min 3 ns.length)
  rw [show ((1 : Nat) : Int) = 1 from rfl] at m2
  have rg := iRange_len (n := max 1 (min 3 ns.length)) (sl_le (by omega))
  have hr : pRng [SV.fz (.scr ns), .un, .un] = .ret ((List.range (max 1 (min 3 ns.length))).map fun (k : Nat) => PV.int k, [SV.fz (.scr ns), .un, .un]) := by
    unfold pRng
    rw [c_iRng, c_eOp2, c_eC, Wp.ret_bind, c_eOp2, c_eC, Wp.ret_bind, c_eOp1]
    simp only [c_eVar', List.getElem?_cons_zero, Wp.ret_bind, pLen, lift, m1, m2, rg, lift']
  rw [hr]
  simp only [Wp.ret_bind]
  refine for_inv (fun _ ρ => ∃ a1 a2, ρ = [.fz (.scr ns), a1, a2]) _ 0 _ ⟨_, _, rfl⟩ (fun j x hx ρ1 ⟨a1, a2, e⟩ => ?_) fun ρ' ⟨a1, a2, e⟩ => ?_
  · obtain ⟨hj, rfl⟩ := range_at hx
    subst e
    exact ⟨_, rfl, fun {K E} hK => body_run (by omega) a2 fun a1 a2 => hK _ ⟨_, _, rfl⟩⟩
  · subst e
    exact h
end k02

set_option Elab.async false
set_option linter.all false
set_option maxRecDepth 100000
set_option maxHeartbeats 1000000
namespace k02
open PySem PySem.Spec PyProof.Rows L2 VL
theorem very7 : Very7 r__law_same := by
  show Very7 (m__law_same 12)
  rw [same_eq]
  exact very7_ok 11
/-- the law's own contract, no error let out -/
def spLaw (K : PySem.W.Frag) : Sp := fun vs H Q _ => ∃ (a : Addr) (ns : List Int), vs = [.ref a] ∧ ns.length ≤ 63 ∧ Only H ∧ SqL K H a (ns.map V.int) ∧ ∀ H', Q (.bl true) H'
theorem law_sp {K : PySem.W.Frag} {vs : List V} {H : Hp} {Q : VK} {E : XK} (h : spLaw K vs H Q E) : SpV (cc K fun _ => False) 1 m_law vs H Q E := by
  obtain ⟨a, ns, rfl, hl, hO, hS, q⟩ := h
  refine ⟨rfl, H, [.fz (.scr ns)], Reps.er (Same.refl H) (fun p b => False.elim b) (.cons (.scr hS) .nil), law_true ns hl _ _ fun w F' H' st rp => ?_⟩
  cases rp
  exact q H'
theorem noCX {P : Program} {w : World} (H : Hp) (s : Shared) (e : Value) (s' : Shared) (z : L2.CX P w [] H s (fun _ _ _ => False) e s') : False := by
  obtain ⟨_, _, _, _, _, _, _, _, _, _, _, _, z⟩ := z
  exact z
theorem all_mk {P : Program} {w : World} {K : PySem.W.Frag} {h : Heap} {mg : Str → Option Value} {fa_ : Addr} (X : K.In h) (G : h.Ns mainGlobals mg) (hfa : mg "law" = some (.ref fa_)) (c : He.SaysT fa fnD tsD w K) (e : exB K = true) :
    ∃ fd : FuncData, (∀ (s : Shared) (u : Value), BindsTo s fd ⟨[u], []⟩ [("script", u)]) ∧ ∀ base : Heap, K.In base → base.Ns mainGlobals mg → FnOkG P w K mg base (L2.CX P w) 17 fa_ fd ["script"] (spLaw K) := by
  have T := txt_of X G c e
  obtain ⟨f, fd, hm, _, Fn⟩ := all_fv (P := P) (base := h) T take_ok very7 (B := fun _ => False)
  have e1 := hfa.symm.trans hm
  cases e1
  obtain ⟨oc, od, kV, doc, pm, an, cdv, ct, osl, e2, lk, hcd⟩ := Fn.ex
  refine ⟨fd, fun s u => by subst e2; exact .of_eq rfl, fun base _ _ => ?_⟩
  obtain ⟨f2, fd2, hm2, ok, Fn2⟩ := all_fv (P := P) (base := base) T take_ok very7 (B := fun _ => False)
  have e3 := hm2.symm.trans hm
  cases e3
  obtain ⟨oc2, od2, kV2, doc2, pm2, an2, cdv2, ct2, osl2, e4, lk2, hcd2⟩ := Fn2.ex
  rw [lk] at lk2
  cases lk2
  exact ok.imp fun vs H Q E h => law_sp h
end k02
open PySem PySem.W PyProof.Rows
set_option maxHeartbeats 0 in
theorem PySem.Challenge.cw_nestedhands_k02_bought_plants_holds : PySem.Challenge.rw_nestedhands_k02_bought_plants.Holds := by
  w_on; o_law; k_head; (case hw => w_witness2)
  k_fill
  refine VL.walk_ofG (l := PySem.Challenge.rw_nestedhands_k02_bought_plants) (n := 63) (k := 17) (x := "script") (sp := fun w => k02.spLaw _) rfl (by decide) rfl ⟨rfl, by decide, by decide⟩ (fun w h Y => PySem.W.kIn_of Y) ?F (fun _ _ a ns hl hO hS => ⟨a, ns, rfl, hl, hO, hS, fun _ => rfl⟩) (fun _ => k02.noCX)
  case F =>
    intro w mg fa h KX G hmg
    exact k02.all_mk KX G hmg (show He.obsT k02.fa k02.fnD k02.tsD _ = He.valT k02.fnD k02.tsD w from by kernel_rfl) (by kernel_rfl)

